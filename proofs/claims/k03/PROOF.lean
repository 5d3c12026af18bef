import PyProof.Rows.All
import Wide.All
import OpenK.AllK
import Wide.FinOn
import HandS.ForMost
import HandS.Exc
import HandS.Wide
import HandS.Deep
import HandS.TupAny
import HandS.SortInts
import HandS.IsInst
import HandS.Flow
import HandS.Conv
import HandS.CallSlots
import HandS.WordsExc
import HandS.Iter
import HandS.Comp
import KE.KExcSuper
import KE.KSuper
import HandS.ExcInit
import HandS.ExcIs
import HandS.ExcField
import HandS.TryOnly
import KE.KExcIs
import HandS.OwnEq
import PyProof.InstNe
import HandS.HeadEnd
import HandS.Defaults
import HandS.Text
import HandS.Property
import PyProof.ReprRoads
import HandS.Head0
import HandS.Head1
import HandS.Head2
import HandS.HeadHook1
import HandS.HeadHook2
import PySem.Challenge.RW_looseorder_k03_frames_of_verbs
set_option Elab.async false
set_option linter.all false
set_option maxRecDepth 100000
section
/-! D0: plain data over the hand layer: what stands in the heap, as trees; the state of a def as values by slot. -/
namespace DL
open PySem PySem.Spec L2

/-- plain data -/
inductive D where
  | non | bl (b : Bool) | int (i : Int) | str (x : Str)
  | tup (xs : List D) | lst (xs : List D) | scr (ns : List Int)
  | ins (c : Str) (fs : List (Str × D))
  deriving Inhabited

/-- what is known of the module: its written part, its names; XI: the exception that a suite holds -/
structure Bas where
  K : PySem.W.Frag
  mg : Str → Option Value
  XI : Addr → Value → Option Addr → Prop

mutual
inductive Rep (B : Bas) (F : Hp) : V → D → Prop
  | non : Rep B F .non .non
  | bl (b : Bool) : Rep B F (.bl b) (.bl b)
  | int (i : Int) : Rep B F (.int i) (.int i)
  | str (x : Str) : Rep B F (.str x) (.str x)
  | tup {a : Addr} {xs : List V} {ds : List D} : SqT B.K F a xs → RepL B F xs ds → Rep B F (.ref a) (.tup ds)
  | lst {a : Addr} {xs : List V} {ds : List D} : F a = some (.lst xs) → RepL B F xs ds → Rep B F (.ref a) (.lst ds)
  | scr {a : Addr} {ns : List Int} : SqL B.K F a (ns.map V.int) → Rep B F (.ref a) (.scr ns)
  | ins {a C dx : Addr} {c : Str} {fs : List (Str × V)} {gs : List (Str × D)} : B.mg c = some (.ref C) → F a = some (.ins C dx fs) → F dx = some (.own a) → RepF B F fs gs → Rep B F (.ref a) (.ins c gs)
inductive RepL (B : Bas) (F : Hp) : List V → List D → Prop
  | nil : RepL B F [] []
  | cons {v : V} {d : D} {vs : List V} {ds : List D} : Rep B F v d → RepL B F vs ds → RepL B F (v :: vs) (d :: ds)
inductive RepF (B : Bas) (F : Hp) : List (Str × V) → List (Str × D) → Prop
  | nil : RepF B F [] []
  | cons {f : Str} {v : V} {d : D} {vs : List (Str × V)} {ds : List (Str × D)} : Rep B F v d → RepF B F vs ds → RepF B F ((f, v) :: vs) ((f, d) :: ds)
end

theorem rd_mono {F F' : Hp} (m : ∀ a o, F a = some o → F' a = some o) {a : Addr} {u : HO} (h : Rd F a u) : Rd F' a u := h.elim (fun h => .inl (m _ _ h)) fun ⟨o, h⟩ => .inr ⟨o, m _ _ h⟩
theorem sqt_mono {K : PySem.W.Frag} {F F' : Hp} (m : ∀ a o, F a = some o → F' a = some o) {a : Addr} {xs : List V} (h : SqT K F a xs) : SqT K F' a xs := h.elim (fun h => .inl (rd_mono m h)) .inr
theorem sql_mono {K : PySem.W.Frag} {F F' : Hp} (m : ∀ a o, F a = some o → F' a = some o) {a : Addr} {xs : List V} (h : SqL K F a xs) : SqL K F' a xs := h.elim (fun h => .inl (rd_mono m h)) .inr

mutual
theorem Rep.mono {B : Bas} {F F' : Hp} (m : ∀ a o, F a = some o → F' a = some o) : ∀ {v : V} {d : D}, Rep B F v d → Rep B F' v d
  | _, _, .non => .non
  | _, _, .bl b => .bl b
  | _, _, .int i => .int i
  | _, _, .str x => .str x
  | _, _, .tup h l => .tup (sqt_mono m h) (l.mono m)
  | _, _, .lst h l => .lst (m _ _ h) (l.mono m)
  | _, _, .scr h => .scr (sql_mono m h)
  | _, _, .ins g h o l => .ins g (m _ _ h) (m _ _ o) (l.mono m)
theorem RepL.mono {B : Bas} {F F' : Hp} (m : ∀ a o, F a = some o → F' a = some o) : ∀ {v : List V} {d : List D}, RepL B F v d → RepL B F' v d
  | _, _, .nil => .nil
  | _, _, .cons h l => .cons (h.mono m) (l.mono m)
theorem RepF.mono {B : Bas} {F F' : Hp} (m : ∀ a o, F a = some o → F' a = some o) : ∀ {v : List (Str × V)} {d : List (Str × D)}, RepF B F v d → RepF B F' v d
  | _, _, .nil => .nil
  | _, _, .cons h l => .cons (h.mono m) (l.mono m)
end
/-- the exception that is held does not matter to data -/
def Bas.wi (B : Bas) (I : Addr → Value → Option Addr → Prop) : Bas := ⟨B.K, B.mg, I⟩
mutual
theorem Rep.wi {B : Bas} {F : Hp} {I : Addr → Value → Option Addr → Prop} : ∀ {v : V} {d : D}, Rep B F v d → Rep (B.wi I) F v d
  | _, _, .non => .non
  | _, _, .bl b => .bl b
  | _, _, .int i => .int i
  | _, _, .str x => .str x
  | _, _, .tup h l => .tup h l.wi
  | _, _, .lst h l => .lst h l.wi
  | _, _, .scr h => .scr h
  | _, _, .ins g h o l => .ins g h o l.wi
theorem RepL.wi {B : Bas} {F : Hp} {I : Addr → Value → Option Addr → Prop} : ∀ {v : List V} {d : List D}, RepL B F v d → RepL (B.wi I) F v d
  | _, _, .nil => .nil
  | _, _, .cons h l => .cons h.wi l.wi
theorem RepF.wi {B : Bas} {F : Hp} {I : Addr → Value → Option Addr → Prop} : ∀ {v : List (Str × V)} {d : List (Str × D)}, RepF B F v d → RepF (B.wi I) F v d
  | _, _, .nil => .nil
  | _, _, .cons h l => .cons h.wi l.wi
end
section
variable {B : Bas} {F : Hp}
theorem RepL.length : ∀ {vs : List V} {ds : List D}, RepL B F vs ds → vs.length = ds.length
  | _, _, .nil => rfl
  | _, _, .cons _ l => congrArg (· + 1) l.length
theorem RepL.get : ∀ {vs : List V} {ds : List D} {i : Nat} {d : D}, RepL B F vs ds → ds[i]? = some d → ∃ v, vs[i]? = some v ∧ Rep B F v d
  | _, _, _, _, .nil, e => by simp at e
  | _, _, 0, _, .cons h _, e => by simp at e; subst e; exact ⟨_, rfl, h⟩
  | _, _, i + 1, _, .cons _ l, e => by simpa using RepL.get (i := i) l (by simpa using e)
theorem RepL.getV : ∀ {vs : List V} {ds : List D} {i : Nat} {v : V}, RepL B F vs ds → vs[i]? = some v → ∃ d, ds[i]? = some d ∧ Rep B F v d
  | _, _, _, _, .nil, e => by simp at e
  | _, _, 0, _, .cons h _, e => by simp at e; subst e; exact ⟨_, rfl, h⟩
  | _, _, i + 1, _, .cons _ l, e => by simpa using RepL.getV (i := i) l (by simpa using e)
theorem RepL.append : ∀ {vs ws : List V} {ds es : List D}, RepL B F vs ds → RepL B F ws es → RepL B F (vs ++ ws) (ds ++ es)
  | _, _, _, _, .nil, l => l
  | _, _, _, _, .cons h l, m => .cons h (l.append m)
theorem RepL.set {v : V} {d : D} (h : Rep B F v d) : ∀ {vs : List V} {ds : List D} (i : Nat), RepL B F vs ds → RepL B F (vs.set i v) (ds.set i d)
  | _, _, _, .nil => .nil
  | _, _, 0, .cons _ l => .cons h l
  | _, _, i + 1, .cons g l => .cons g (RepL.set h i l)
theorem RepL.take : ∀ {vs : List V} {ds : List D} (n : Nat), RepL B F vs ds → RepL B F (vs.take n) (ds.take n)
  | _, _, 0, _ => .nil
  | _, _, _ + 1, .nil => .nil
  | _, _, n + 1, .cons h l => .cons h (RepL.take n l)
theorem RepL.drop : ∀ {vs : List V} {ds : List D} (n : Nat), RepL B F vs ds → RepL B F (vs.drop n) (ds.drop n)
  | _, _, 0, l => l
  | _, _, _ + 1, .nil => .nil
  | _, _, n + 1, .cons _ l => RepL.drop n l
theorem RepL.erase : ∀ {vs : List V} {ds : List D} (i : Nat), RepL B F vs ds → RepL B F (vs.eraseIdx i) (ds.eraseIdx i)
  | _, _, _, .nil => .nil
  | _, _, 0, .cons _ l => l
  | _, _, i + 1, .cons h l => .cons h (RepL.erase i l)
theorem RepL.dropLast : ∀ {vs : List V} {ds : List D}, RepL B F vs ds → RepL B F vs.dropLast ds.dropLast
  | _, _, .nil => .nil
  | _, _, .cons _ .nil => .nil
  | _, _, .cons h (.cons g l) => .cons h (RepL.dropLast (.cons g l))
theorem RepL.ins {v : V} {d : D} (h : Rep B F v d) : ∀ {vs : List V} {ds : List D} (i : Nat), RepL B F vs ds → RepL B F (vs.take i ++ v :: vs.drop i) (ds.take i ++ d :: ds.drop i) := fun i l => (RepL.take i l).append (.cons h (RepL.drop i l))
theorem RepL.ints : ∀ ns : List Int, RepL B F (ns.map V.int) (ns.map D.int)
  | [] => .nil
  | n :: r => .cons (.int n) (RepL.ints r)
theorem RepL.strs : ∀ ns : List Str, RepL B F (ns.map V.str) (ns.map D.str)
  | [] => .nil
  | n :: r => .cons (.str n) (RepL.strs r)
theorem RepL.inv_ints : ∀ {ns : List Int} {vs : List V}, RepL B F vs (ns.map D.int) → vs = ns.map V.int
  | [], _, .nil => rfl
  | _ :: _, _, .cons (.int _) l => by rw [List.map_cons, RepL.inv_ints l]
theorem RepL.inv_strs : ∀ {ns : List Str} {vs : List V}, RepL B F vs (ns.map D.str) → vs = ns.map V.str
  | [], _, .nil => rfl
  | _ :: _, _, .cons (.str _) l => by rw [List.map_cons, RepL.inv_strs l]
theorem RepF.get : ∀ {fs : List (Str × V)} {gs : List (Str × D)} {f : Str} {d : D}, RepF B F fs gs → gs.lookup f = some d → ∃ v, fs.lookup f = some v ∧ Rep B F v d
  | _, _, _, _, .nil, e => by simp at e
  | _, _, f, _, .cons (f := g) h l, e => by
    simp only [List.lookup] at e ⊢
    cases q : f == g with
    | true => rw [q] at e; simp only at e ⊢; cases e; exact ⟨_, rfl, h⟩
    | false => rw [q] at e; simp only at e ⊢; exact RepF.get l e
theorem RepF.none : ∀ {fs : List (Str × V)} {gs : List (Str × D)} {f : Str}, RepF B F fs gs → gs.lookup f = none → fs.lookup f = none
  | _, _, _, .nil, _ => rfl
  | _, _, f, .cons (f := g) h l, e => by
    simp only [List.lookup] at e ⊢
    cases q : f == g with
    | true => rw [q] at e; simp at e
    | false => rw [q] at e; simp only at e ⊢; exact RepF.none l e
theorem RepF.length : ∀ {fs : List (Str × V)} {gs : List (Str × D)}, RepF B F fs gs → fs.length = gs.length
  | _, _, .nil => rfl
  | _, _, .cons _ l => congrArg (· + 1) l.length
/-- an attribute stored -/
def putD (f : Str) (d : D) : List (Str × D) → List (Str × D)
  | [] => [(f, d)]
  | (g, e) :: r => if g = f then (g, d) :: r else (g, e) :: putD f d r
end
end DL
end
section
/-! D1: the slots of a def as data; what a step may change. -/
namespace DL
open PySem PySem.Spec L2

theorem RepF.put {B : Bas} {F : Hp} {f : Str} {v : V} {d : D} (h : Rep B F v d) : ∀ {fs : List (Str × V)} {gs : List (Str × D)}, RepF B F fs gs → RepF B F (putF f v fs) (putD f d gs)
  | _, _, .nil => .cons h .nil
  | (g, x) :: r, (_, e) :: q, .cons k l => by
    show RepF B F (if g = f then (g, v) :: r else (g, x) :: putF f v r) (if g = f then (g, d) :: q else (g, e) :: putD f d q)
    by_cases c : g = f
    · rw [if_pos c, if_pos c]; exact .cons h l
    · rw [if_neg c, if_neg c]; exact .cons k (RepF.put h l)

/-- what a slot owns: a list, an object that is being made -/
inductive OB where
  | lst (xs : List D)
  | ob (c : Str) (fs : List (Str × D))
/-- a slot's content: plain data; an object of its own (b: handed in by the caller, who sees it change); such an object, locked; the exception of a suite; nothing any more -/
inductive SV where
  | fz (d : D) | ow (b : Bool) (o : OB) | lk (o : OB) | xn (c : Str) (fs : List (Str × D)) | dd
abbrev Env := List (Option SV)
def SV.obj : SV → Bool
  | .ow _ _ => true
  | .lk _ => true
  | _ => false

def RepO (B : Bas) (F H : Hp) (a : Addr) : OB → Prop
  | .lst ds => ∃ xs, H a = some (.lst xs) ∧ RepL B F xs ds
  | .ob c fs => ∃ C dx vs, B.mg c = some (.ref C) ∧ H a = some (.ins C dx vs) ∧ F dx = some (.own a) ∧ RepF B F vs fs
theorem RepO.keep {B : Bas} {F F' H H' : Hp} {a : Addr} {o : OB} (m : ∀ a o, F a = some o → F' a = some o) (k : ∀ o, H a = some o → H' a = some o) (h : RepO B F H a o) : RepO B F' H' a o := by
  cases o with
  | lst ds => obtain ⟨xs, h1, h2⟩ := h; exact ⟨xs, k _ h1, h2.mono m⟩
  | ob c fs => obtain ⟨C, dx, vs, g, h1, h2, h3⟩ := h; exact ⟨C, dx, vs, g, k _ h1, m _ _ h2, h3.mono m⟩
theorem RepO.some {B : Bas} {F H : Hp} {a : Addr} {o : OB} (h : RepO B F H a o) : ∃ u, H a = some u := by
  cases o with
  | lst ds => obtain ⟨xs, h1, _⟩ := h; exact ⟨_, h1⟩
  | ob c fs => obtain ⟨C, dx, vs, g, h1, _⟩ := h; exact ⟨_, h1⟩

def SvR (B : Bas) (F H : Hp) (v : V) : SV → Prop
  | .fz d => Rep B F v d
  | .ow _ o => ∃ a, v = .ref a ∧ F a = none ∧ RepO B F H a o
  | .lk o => ∃ a, v = .ref a ∧ F a = none ∧ RepO B F H a o
  | .xn c fs => ∃ a C dd vs, v = .ref a ∧ B.mg c = some (.ref C) ∧ B.XI a (.ref C) dd ∧ ((dd = none ∧ fs = []) ∨ ∃ e, dd = some e ∧ F e = some (.xd vs) ∧ RepF B F vs fs)
  | .dd => True

def OwnAt (ρ : Env) (σ : St) (i : Nat) (a : Addr) : Prop := ∃ b o, ρ[i]? = some (some (.ow b o)) ∧ σ[i]? = some (some (.ref a))
def HasAt (ρ : Env) (σ : St) (i : Nat) (a : Addr) : Prop := ∃ sv, ρ[i]? = some (some sv) ∧ sv.obj = true ∧ σ[i]? = some (some (.ref a))
theorem OwnAt.has {ρ : Env} {σ : St} {i : Nat} {a : Addr} (h : OwnAt ρ σ i a) : HasAt ρ σ i a := let ⟨b, o, h1, h2⟩ := h; ⟨_, h1, rfl, h2⟩

structure Rel (B : Bas) (F : Hp) (ρ : Env) (σ : St) (H : Hp) : Prop where
  ext : ∀ a o, F a = some o → H a = some o
  len : σ.length = ρ.length
  sl : ∀ (i : Nat) (sv : SV), ρ[i]? = some (some sv) → ∃ v, σ[i]? = some (some v) ∧ SvR B F H v sv
  sep : ∀ i j a, OwnAt ρ σ i a → HasAt ρ σ j a → i = j

structure Stp (F : Hp) (ρ : Env) (σ : St) (H : Hp) (F' : Hp) (ρ' : Env) (σ' : St) (H' : Hp) : Prop where
  mono : ∀ a o, F a = some o → F' a = some o
  newF : ∀ a, F' a ≠ none → F a ≠ none ∨ H a = none ∨ ∃ k, OwnAt ρ σ k a
  keep : ∀ a o, H a = some o → (∀ k, ¬ OwnAt ρ σ k a) → H' a = some o
  dom : ∀ a, H' a = none → H a = none
  has : ∀ k a, HasAt ρ' σ' k a → H a = none ∨ HasAt ρ σ k a
  own : ∀ (k : Nat) (b : Bool) (o : OB) (a : Addr), ρ'[k]? = some (some (.ow b o)) → σ'[k]? = some (some (.ref a)) → (b = false ∧ H a = none) ∨ ∃ o0, ρ[k]? = some (some (.ow b o0)) ∧ σ[k]? = some (some (.ref a))
  lks : ∀ (k : Nat) (o : OB) (a : Addr), ρ'[k]? = some (some (.lk o)) → σ'[k]? = some (some (.ref a)) → ∃ o0, ρ[k]? = some (some (.lk o0)) ∧ σ[k]? = some (some (.ref a))

theorem Stp.refl (F : Hp) (ρ : Env) (σ : St) (H : Hp) : Stp F ρ σ H F ρ σ H :=
  ⟨fun _ _ h => h, fun _ h => .inl h, fun _ _ h _ => h, fun _ h => h, fun _ _ h => .inr h, fun _ _ o _ h1 h2 => .inr ⟨o, h1, h2⟩, fun _ o _ h1 h2 => ⟨o, h1, h2⟩⟩
theorem Stp.ownAt {F F' H H' : Hp} {ρ ρ' : Env} {σ σ' : St} (s : Stp F ρ σ H F' ρ' σ' H') {k : Nat} {a : Addr} (h : OwnAt ρ' σ' k a) : H a = none ∨ OwnAt ρ σ k a := by
  obtain ⟨b, o, h1, h2⟩ := h
  rcases s.own k b o a h1 h2 with ⟨_, q⟩ | ⟨o0, q1, q2⟩
  · exact .inl q
  · exact .inr ⟨b, o0, q1, q2⟩
theorem Stp.trans {F F1 F2 H H1 H2 : Hp} {ρ ρ1 ρ2 : Env} {σ σ1 σ2 : St} (s : Stp F ρ σ H F1 ρ1 σ1 H1) (t : Stp F1 ρ1 σ1 H1 F2 ρ2 σ2 H2) : Stp F ρ σ H F2 ρ2 σ2 H2 where
  mono := fun a o h => t.mono a o (s.mono a o h)
  newF := fun a h => by
    rcases t.newF a h with h | h | ⟨k, h⟩
    · exact s.newF a h
    · exact .inr (.inl (s.dom a h))
    · rcases s.ownAt h with h | h
      · exact .inr (.inl h)
      · exact .inr (.inr ⟨k, h⟩)
  keep := fun a o h hn => t.keep a o (s.keep a o h hn) fun k hk => by
    rcases s.ownAt hk with q | q
    · rw [h] at q; cases q
    · exact hn k q
  dom := fun a h => s.dom a (t.dom a h)
  has := fun k a h => by
    rcases t.has k a h with h | h
    · exact .inl (s.dom a h)
    · exact s.has k a h
  own := fun k b o a h1 h2 => by
    rcases t.own k b o a h1 h2 with ⟨q, h⟩ | ⟨o0, q1, q2⟩
    · exact .inl ⟨q, s.dom a h⟩
    · exact s.own k b o0 a q1 q2
  lks := fun k o a h1 h2 => let ⟨o0, q1, q2⟩ := t.lks k o a h1 h2; s.lks k o0 a q1 q2

/-- a new thing at p, tracked outside of F or (fz) within -/
theorem Rel.alloc {B : Bas} {F H : Hp} {ρ : Env} {σ : St} {p : Addr} {u : HO} (R : Rel B F ρ σ H) (hp : H p = none) : Rel B F ρ σ (upd H p u) ∧ Stp F ρ σ H F ρ σ (upd H p u) := by
  have k : ∀ a o, H a = some o → upd H p u a = some o := fun a o h => by rw [upd_ne (ne_of_none h hp)]; exact h
  have dm : ∀ a, upd H p u a = none → H a = none := fun a h => by
    cases q : H a with
    | none => rfl
    | some o => rw [k a o q] at h; cases h
  refine ⟨⟨fun a o h => k a o (R.ext a o h), R.len, fun i sv h => ?_, R.sep⟩, ⟨fun _ _ h => h, fun _ h => .inl h, fun a o h _ => k a o h, dm, fun _ _ h => .inr h, fun _ _ o _ h1 h2 => .inr ⟨o, h1, h2⟩, fun _ o _ h1 h2 => ⟨o, h1, h2⟩⟩⟩
  obtain ⟨v, h1, h2⟩ := R.sl i sv h
  refine ⟨v, h1, ?_⟩
  cases sv with
  | fz d => exact h2
  | ow b o => obtain ⟨a, e, f, q⟩ := h2; exact ⟨a, e, f, q.keep (fun _ _ h => h) (fun o => k a o)⟩
  | lk o => obtain ⟨a, e, f, q⟩ := h2; exact ⟨a, e, f, q.keep (fun _ _ h => h) (fun o => k a o)⟩
  | xn c fs => exact h2
  | dd => trivial

theorem SvR.mono {B : Bas} {F F' H : Hp} {v : V} {sv : SV} (m : ∀ a o, F a = some o → F' a = some o) (nf : ∀ a, sv.obj = true → v = .ref a → F a = none → F' a = none) (h : SvR B F H v sv) : SvR B F' H v sv := by
  cases sv with
  | fz d => exact Rep.mono m h
  | ow b o => obtain ⟨a, e, f, q⟩ := h; exact ⟨a, e, nf a rfl e f, q.keep m (fun _ h => h)⟩
  | lk o => obtain ⟨a, e, f, q⟩ := h; exact ⟨a, e, nf a rfl e f, q.keep m (fun _ h => h)⟩
  | xn c fs =>
    obtain ⟨a, C, dd, vs, e, g, x, q⟩ := h
    refine ⟨a, C, dd, vs, e, g, x, q.elim .inl fun ⟨e, h1, h2, h3⟩ => .inr ⟨e, h1, m _ _ h2, h3.mono m⟩⟩
  | dd => trivial

/-- what stands at p, in no slot, goes into F -/
theorem Rel.freeze {B : Bas} {F0 H0 F H : Hp} {ρ0 ρ : Env} {σ0 σ : St} {p : Addr} {u : HO} (R : Rel B F ρ σ H) (S : Stp F0 ρ0 σ0 H0 F ρ σ H) (hp : H p = some u) (hf : F p = none) (hn : H0 p = none) (hs : ∀ k, ¬ HasAt ρ σ k p) :
    Rel B (upd F p u) ρ σ H ∧ Stp F0 ρ0 σ0 H0 (upd F p u) ρ σ H := by
  have m : ∀ a o, F a = some o → upd F p u a = some o := fun a o h => by rw [upd_ne (ne_of_none h hf)]; exact h
  refine ⟨⟨fun a o h => ?_, R.len, fun i sv h => ?_, R.sep⟩, ⟨fun a o h => m a o (S.mono a o h), fun a h => ?_, S.keep, S.dom, S.has, S.own, S.lks⟩⟩
  · by_cases e : a = p
    · subst e; rw [upd_same] at h; cases h; exact hp
    · rw [upd_ne e] at h; exact R.ext a o h
  · obtain ⟨v, h1, h2⟩ := R.sl i sv h
    refine ⟨v, h1, h2.mono m fun a ho e f => ?_⟩
    subst e
    rw [upd_ne (fun e => hs i ⟨sv, h, ho, by rw [h1, e]⟩)]; exact f
  · by_cases e : a = p
    · subst e; exact .inr (.inl hn)
    · rw [upd_ne e] at h; exact S.newF a h
end DL
end
section
/-! D2: expressions as functions of the slots. -/
namespace DL
open PySem PySem.Spec L2

/-- an expression's value: plain data; a new object that nothing else holds; what stands in a slot -/
inductive RV where
  | fz (d : D) | fr (o : OB) | sl (i : Nat)
inductive Out (α : Type) where
  | ok (a : α) (ρ : Env)
  | ex (c : Str) (fs : List (Str × D)) (ρ : Env)
  | no
def Out.bind {α β : Type} (o : Out α) (f : α → Env → Out β) : Out β := match o with
  | .ok a ρ => f a ρ
  | .ex c fs ρ => .ex c fs ρ
  | .no => .no
abbrev ESem := Env → Out RV

def RvR (B : Bas) (F : Hp) (ρ : Env) (σ : St) (H0 H : Hp) (v : V) : RV → Prop
  | .fz d => Rep B F v d
  | .fr o => ∃ a, v = .ref a ∧ H0 a = none ∧ F a = none ∧ RepO B F H a o ∧ ∀ k, ¬ HasAt ρ σ k a
  | .sl i => σ[i]? = some (some v) ∧ ∃ sv, ρ[i]? = some (some sv)
def XR (B : Bas) (F : Hp) (cls : Value) (dd : Option Addr) (c : Str) (fs : List (Str × D)) : Prop :=
  ∃ C, B.mg c = some (.ref C) ∧ cls = .ref C ∧ ((dd = none ∧ fs = []) ∨ ∃ e vs, dd = some e ∧ F e = some (.xd vs) ∧ RepF B F vs fs)
def Live (ρ ρ' : Env) : Prop := ∀ (i : Nat) (sv : SV), ρ[i]? = some (some sv) → ∃ sv', ρ'[i]? = some (some sv')
theorem Live.refl (ρ : Env) : Live ρ ρ := fun _ sv h => ⟨sv, h⟩
theorem Live.trans {a b c : Env} (h : Live a b) (k : Live b c) : Live a c := fun i sv e => let ⟨s1, e1⟩ := h i sv e; k i s1 e1

section
variable {B : Bas} {F F' F0 H H' H0 G0 : Hp} {ρ ρ' ρ0 : Env} {σ σ0 : St} {v : V} {rv : RV}
theorem RvR.next (S : Stp F ρ σ H F' ρ' σ H') (l : Live ρ ρ') (h : RvR B F ρ σ H0 H v rv) : RvR B F' ρ' σ H0 H' v rv := by
  cases rv with
  | fz d => exact Rep.mono S.mono h
  | sl i => obtain ⟨h1, sv, h2⟩ := h; exact ⟨h1, l i sv h2⟩
  | fr o =>
    obtain ⟨a, e, h0, hf, ho, hh⟩ := h
    obtain ⟨u, hu⟩ := ho.some
    have no : ∀ k, ¬ OwnAt ρ σ k a := fun k q => hh k q.has
    refine ⟨a, e, h0, ?_, ho.keep S.mono fun o q => S.keep a o q no, fun k q => ?_⟩
    · cases q : F' a with
      | none => rfl
      | some z =>
        rcases S.newF a (by rw [q]; exact fun z => nomatch z) with q | q | ⟨k, q⟩
        · exact absurd hf q
        · rw [hu] at q; cases q
        · exact absurd q (no k)
    · rcases S.has k a q with q | q
      · rw [hu] at q; cases q
      · exact hh k q
theorem RvR.base (g : ∀ a, H0 a = none → G0 a = none) (h : RvR B F ρ σ H0 H v rv) : RvR B F ρ σ G0 H v rv := by
  cases rv with
  | fz d => exact h
  | sl i => exact h
  | fr o => obtain ⟨a, e, h0, r⟩ := h; exact ⟨a, e, g a h0, r⟩
end

/-! ### reading -/
def OB.d : OB → Option D
  | .lst ds => some (.lst ds)
  | .ob _ _ => none
def rd (ρ : Env) : RV → Option D
  | .fz d => some d
  | .fr o => o.d
  | .sl i => match ρ[i]? with
    | some (some (.fz d)) => some d
    | some (some (.ow _ o)) => o.d
    | some (some (.lk o)) => o.d
    | _ => none
def RdR (B : Bas) (F H : Hp) (v : V) (d : D) : Prop := Rep B F v d ∨ ∃ a xs ds, v = .ref a ∧ d = .lst ds ∧ H a = some (.lst xs) ∧ RepL B F xs ds
theorem rdO {B : Bas} {F H : Hp} {a : Addr} {o : OB} {d : D} (h : RepO B F H a o) (e : o.d = some d) : RdR B F H (.ref a) d := by
  cases o with
  | lst ds =>
    obtain ⟨xs, h1, h2⟩ := h
    cases e
    exact .inr ⟨a, xs, ds, rfl, rfl, h1, h2⟩
  | ob c fs => cases e
section
variable {B : Bas} {F F' F0 H H' H0 G0 : Hp} {ρ ρ' ρ0 : Env} {σ σ0 : St} {v : V} {rv : RV} {d : D}
theorem rd_ok (R : Rel B F ρ σ H) (h : RvR B F ρ σ H0 H v rv) (e : rd ρ rv = some d) : RdR B F H v d := by
  cases rv with
  | fz d' => cases e; exact .inl h
  | fr o => obtain ⟨a, rfl, _, _, ho, _⟩ := h; exact rdO ho e
  | sl i =>
    obtain ⟨h1, sv, h2⟩ := h
    obtain ⟨v', h3, h4⟩ := R.sl i sv h2
    rw [h1] at h3; cases h3
    simp only [rd, h2] at e
    cases sv with
    | fz d' => cases e; exact .inl h4
    | ow b o => obtain ⟨a, rfl, _, ho⟩ := h4; exact rdO ho e
    | lk o => obtain ⟨a, rfl, _, ho⟩ := h4; exact rdO ho e
    | xn c fs => cases e
    | dd => cases e

/-! ### into plain data -/
def frz (ρ : Env) : RV → Option (D × Env)
  | .fz d => some (d, ρ)
  | .fr (.lst ds) => some (.lst ds, ρ)
  | .fr _ => none
  | .sl i => match ρ[i]? with
    | some (some (.fz d)) => some (d, ρ)
    | some (some (.ow _ (.lst ds))) => some (.lst ds, ρ.set i (some (.fz (.lst ds))))
    | _ => none
theorem get_set {α : Type} {l : List α} {i j : Nat} {x y : α} (h : (l.set i x)[j]? = some y) : (i = j ∧ y = x) ∨ (i ≠ j ∧ l[j]? = some y) := by
  rw [List.getElem?_set] at h
  by_cases e : i = j
  · rw [if_pos e] at h
    by_cases q : i < l.length
    · rw [if_pos q] at h; cases h; exact .inl ⟨e, rfl⟩
    · rw [if_neg q] at h; cases h
  · rw [if_neg e] at h; exact .inr ⟨e, h⟩
theorem set_get {α : Type} {l : List α} {i j : Nat} {x y : α} (h : l[j]? = some y) : ∃ z, (l.set i x)[j]? = some z := by
  rw [List.getElem?_set]
  by_cases e : i = j
  · subst e
    rw [if_pos rfl, if_pos (List.getElem?_eq_some_iff.mp h).1]
    exact ⟨x, rfl⟩
  · rw [if_neg e]; exact ⟨y, h⟩
theorem live_set {ρ : Env} {i : Nat} {s : SV} : Live ρ (ρ.set i (some s)) := fun j sv h => by
  rw [List.getElem?_set]
  by_cases e : i = j
  · subst e
    rw [if_pos rfl, if_pos (List.getElem?_eq_some_iff.mp h).1]
    exact ⟨s, rfl⟩
  · rw [if_neg e]; exact ⟨sv, h⟩
/-- a slot's own list becomes plain data -/
theorem Rel.frzAt {b : Bool} {ds : List D} {i : Nat} (R : Rel B F ρ σ H) (S : Stp F0 ρ0 σ0 H0 F ρ σ H) (h : ρ[i]? = some (some (.ow b (.lst ds)))) :
    ∃ F' v, Stp F0 ρ0 σ0 H0 F' (ρ.set i (some (.fz (.lst ds)))) σ H ∧ Rel B F' (ρ.set i (some (.fz (.lst ds)))) σ H ∧ σ[i]? = some (some v) ∧ Rep B F' v (.lst ds) ∧ (∀ a o, F a = some o → F' a = some o) := by
  obtain ⟨v, h1, a, rfl, hf, xs, hH, hl⟩ := R.sl i _ h
  have m : ∀ c o, F c = some o → upd F a (.lst xs) c = some o := fun c o q => by rw [upd_ne (ne_of_none q hf)]; exact q
  have own : OwnAt ρ σ i a := ⟨b, _, h, h1⟩
  have hs : ∀ k c, HasAt (ρ.set i (some (.fz (.lst ds)))) σ k c → HasAt ρ σ k c ∧ i ≠ k := fun k c ⟨sv, q1, q2, q3⟩ => by
    rcases get_set q1 with ⟨_, z⟩ | ⟨z, q⟩
    · injection z with z; subst z; cases q2
    · exact ⟨⟨sv, q, q2, q3⟩, z⟩
  have ho : ∀ (k : Nat) (b : Bool) (o : OB), (ρ.set i (some (.fz (.lst ds))))[k]? = some (some (.ow b o)) → ρ[k]? = some (some (.ow b o)) ∧ i ≠ k := fun k b o q => by
    rcases get_set q with ⟨_, z⟩ | ⟨z, q⟩
    · cases z
    · exact ⟨q, z⟩
  have hr : Rep B (upd F a (.lst xs)) (.ref a) (.lst ds) := .lst upd_same (hl.mono m)
  refine ⟨upd F a (.lst xs), .ref a, ⟨fun c o q => m c o (S.mono c o q), fun c q => ?_, S.keep, S.dom, fun k c q => S.has k c (hs k c q).1, fun k b' o c q1 q2 => S.own k b' o c (ho k b' o q1).1 q2, fun k o c q1 q2 => S.lks k o c (by
      rcases get_set q1 with ⟨_, z⟩ | ⟨_, z⟩
      · cases z
      · exact z) q2⟩,
    ⟨fun c o q => ?_, by rw [List.length_set]; exact R.len, fun j sv q => ?_, fun j k c q1 q2 => ?_⟩, h1, hr, m⟩
  · by_cases e : c = a
    · subst e
      rcases S.ownAt own with z | z
      · exact .inr (.inl z)
      · exact .inr (.inr ⟨i, z⟩)
    · rw [upd_ne e] at q; exact S.newF c q
  · by_cases e : c = a
    · subst e; rw [upd_same] at q; cases q; exact hH
    · rw [upd_ne e] at q; exact R.ext c o q
  · rcases get_set q with ⟨e, z⟩ | ⟨e, q⟩
    · injection z with z; subst z; subst e; exact ⟨_, h1, hr⟩
    · obtain ⟨v, g1, g2⟩ := R.sl j sv q
      refine ⟨v, g1, g2.mono m fun c hc ev hn => ?_⟩
      subst ev
      rw [upd_ne fun z => e (R.sep i j a own ⟨sv, q, hc, by rw [g1, z]⟩)]
      exact hn
  · obtain ⟨b', o, w1, w2⟩ := q1
    exact R.sep j k c ⟨b', o, (ho j b' o w1).1, w2⟩ (hs k c q2).1
theorem frz_ok (R : Rel B F ρ σ H) (S : Stp F0 ρ0 σ0 H0 F ρ σ H) (h : RvR B F ρ σ H0 H v rv) (e : frz ρ rv = some (d, ρ')) :
    ∃ F', Stp F0 ρ0 σ0 H0 F' ρ' σ H ∧ Live ρ ρ' ∧ Rel B F' ρ' σ H ∧ Rep B F' v d ∧ (∀ a o, F a = some o → F' a = some o) := by
  cases rv with
  | fz d' => cases e; exact ⟨F, S, Live.refl _, R, h, fun _ _ h => h⟩
  | fr o =>
    cases o with
    | ob c fs => cases e
    | lst ds =>
      cases e
      obtain ⟨a, rfl, h0, hf, ⟨xs, hH, hl⟩, hh⟩ := h
      have m : ∀ c o, F c = some o → upd F a (.lst xs) c = some o := fun c o q => by rw [upd_ne (ne_of_none q hf)]; exact q
      obtain ⟨R', S'⟩ := R.freeze S hH hf h0 hh
      exact ⟨_, S', Live.refl _, R', .lst upd_same (hl.mono m), m⟩
  | sl i =>
    obtain ⟨h1, sv, h2⟩ := h
    simp only [frz, h2] at e
    cases sv with
    | fz d' =>
      cases e
      obtain ⟨v', h3, h4⟩ := R.sl i _ h2
      rw [h1] at h3; cases h3
      exact ⟨F, S, Live.refl _, R, h4, fun _ _ h => h⟩
    | ow b o =>
      cases o with
      | ob c fs => cases e
      | lst ds =>
        cases e
        obtain ⟨F', v', S', R', q1, q2, m⟩ := R.frzAt S h2
        rw [h1] at q1; cases q1
        exact ⟨F', S', live_set, R', q2, m⟩
    | lk o => cases e
    | xn c fs => cases e
    | dd => cases e
end

/-! ### what an expression's reading is to give -/
def PostE (B : Bas) (F : Hp) (ρ : Env) (σ : St) (H : Hp) (rv : RV) (ρ' : Env) (Q : VK) : Prop :=
  ∀ F' H' v, Stp F ρ σ H F' ρ' σ H' → Live ρ ρ' → Rel B F' ρ' σ H' → RvR B F' ρ' σ H H' v rv → Q v H'
def PostX (B : Bas) (F : Hp) (ρ : Env) (σ : St) (H : Hp) (c : Str) (fs : List (Str × D)) (ρ' : Env) (W : WX) : Prop :=
  ∀ F' H' cls dd, Stp F ρ σ H F' ρ' σ H' → Rel B F' ρ' σ H' → XR B F' cls dd c fs → W cls dd σ H'
def PostC (B : Bas) (F : Hp) (ρ : Env) (σ : St) (H : Hp) (b : Bool) (ρ' : Env) (Q : Bool → Hp → Prop) : Prop :=
  ∀ F' H', Stp F ρ σ H F' ρ' σ H' → Live ρ ρ' → Rel B F' ρ' σ H' → Q b H'
def PostL (B : Bas) (F : Hp) (ρ : Env) (σ : St) (H : Hp) (ds : List D) (ρ' : Env) (Q : List V → Hp → Prop) : Prop :=
  ∀ F' H' vs, Stp F ρ σ H F' ρ' σ H' → Live ρ ρ' → Rel B F' ρ' σ H' → RepL B F' vs ds → Q vs H'
/-- an argument: data, or a slot -/
inductive PR (B : Bas) (F : Hp) (ρ : Env) (σ : St) : List V → List RV → Prop
  | nil : PR B F ρ σ [] []
  | fz {v : V} {d : D} {vs : List V} {rs : List RV} : Rep B F v d → PR B F ρ σ vs rs → PR B F ρ σ (v :: vs) (.fz d :: rs)
  | sl {v : V} {i : Nat} {vs : List V} {rs : List RV} {sv : SV} : σ[i]? = some (some v) → ρ[i]? = some (some sv) → PR B F ρ σ vs rs → PR B F ρ σ (v :: vs) (.sl i :: rs)
theorem PR.next {B : Bas} {F F' : Hp} {ρ ρ' : Env} {σ : St} (m : ∀ a o, F a = some o → F' a = some o) (l : Live ρ ρ') : ∀ {vs : List V} {rs : List RV}, PR B F ρ σ vs rs → PR B F' ρ' σ vs rs
  | _, _, .nil => .nil
  | _, _, .fz h r => .fz (h.mono m) (PR.next m l r)
  | _, _, .sl h1 h2 r => let ⟨_, h3⟩ := l _ _ h2; .sl h1 h3 (PR.next m l r)
def PostP (B : Bas) (F : Hp) (ρ : Env) (σ : St) (H : Hp) (rs : List RV) (ρ' : Env) (Q : List V → Hp → Prop) : Prop :=
  ∀ F' H' vs, Stp F ρ σ H F' ρ' σ H' → Live ρ ρ' → Rel B F' ρ' σ H' → PR B F' ρ' σ vs rs → Q vs H'

def Out.OK {α : Type} (o : Out α) (p : α → Env → Prop) (x : Str → List (Str × D) → Env → Prop) : Prop := match o with
  | .ok a ρ => p a ρ
  | .ex c fs ρ => x c fs ρ
  | .no => False
theorem Out.OK_bind {α β : Type} (o : Out α) (f : α → Env → Out β) (p : β → Env → Prop) (x : Str → List (Str × D) → Env → Prop) : (o.bind f).OK p x = o.OK (fun a ρ => (f a ρ).OK p x) x := by cases o <;> rfl
theorem Out.OK.imp {α : Type} {o : Out α} {p p' : α → Env → Prop} {x x' : Str → List (Str × D) → Env → Prop} (h : o.OK p x) (hp : ∀ a ρ, p a ρ → p' a ρ) (hx : ∀ c fs ρ, x c fs ρ → x' c fs ρ) : o.OK p' x' := by
  cases o with
  | ok a ρ => exact hp _ _ h
  | ex c fs ρ => exact hx _ _ _ h
  | no => exact h

def SemG {α β : Type} (B : Bas) (W : WX) (t : St → Hp → β → Prop) (f : Env → Out α) (P : Hp → Env → St → Hp → α → Env → β → Prop) : Prop :=
  ∀ F ρ σ H, Rel B F ρ σ H → ∀ Q : β, (f ρ).OK (fun a ρ' => P F ρ σ H a ρ' Q) (fun c fs ρ' => PostX B F ρ σ H c fs ρ' W) → t σ H Q
/-- the data of a context -/
abbrev bas (X : Cx) (I : Addr → Value → Option Addr → Prop) : Bas := ⟨X.K, X.mg, I⟩
def SE (X : Cx) (I : Addr → Value → Option Addr → Prop) (W : WX) (e : Expr) (f : ESem) : Prop := ∃ t, PE X e t ∧ SemG (bas X I) W t f (PostE (bas X I))
def SC (X : Cx) (I : Addr → Value → Option Addr → Prop) (W : WX) (e : Expr) (f : Env → Out Bool) : Prop := ∃ t, PT X e t ∧ SemG (bas X I) W t f (PostC (bas X I))
def SL (X : Cx) (I : Addr → Value → Option Addr → Prop) (W : WX) (es : List Expr) (f : Env → Out (List D)) : Prop := ∃ t, PA X es t ∧ SemG (bas X I) W t f (PostL (bas X I))
def SA (X : Cx) (I : Addr → Value → Option Addr → Prop) (W : WX) (es : List Expr) (f : Env → Out (List RV)) : Prop := ∃ t, PA X es t ∧ SemG (bas X I) W t f (PostP (bas X I))
theorem PostX.back {B : Bas} {F F1 H H1 : Hp} {ρ ρ1 ρ' : Env} {σ : St} {c : Str} {fs : List (Str × D)} {W : WX} (S : Stp F ρ σ H F1 ρ1 σ H1) (h : PostX B F ρ σ H c fs ρ' W) : PostX B F1 ρ1 σ H1 c fs ρ' W := fun F' H' cls dd S' R' x => h F' H' cls dd (S.trans S') R' x

section
variable {X : Cx} {I : Addr → Value → Option Addr → Prop} {W : WX}
/-! ### names, constants -/
def eN (i : Nat) : ESem := fun ρ => match ρ[i]? with
  | some (some (.fz d)) => .ok (.fz d) ρ
  | some (some (.ow _ _)) => .ok (.sl i) ρ
  | some (some (.lk _)) => .ok (.sl i) ρ
  | _ => .no
theorem se_name {i : Nat} {x : Str} {pos : Pos} (h : PE X (.Name x pos) (tVar i)) : SE X I W (.Name x pos) (eN i) := by
  refine ⟨_, h, fun F ρ σ H R Q h => ?_⟩
  cases e : ρ[i]? with
  | none => simp [eN, e, Out.OK] at h
  | some o =>
    cases o with
    | none => simp [eN, e, Out.OK] at h
    | some sv =>
      obtain ⟨v, h1, h2⟩ := R.sl i sv e
      cases sv with
      | fz d => simp only [eN, e, Out.OK] at h; exact ⟨v, h1, h F H v (Stp.refl _ _ _ _) (Live.refl _) R h2⟩
      | ow b o => simp only [eN, e, Out.OK] at h; exact ⟨v, h1, h F H v (Stp.refl _ _ _ _) (Live.refl _) R ⟨h1, _, e⟩⟩
      | lk o => simp only [eN, e, Out.OK] at h; exact ⟨v, h1, h F H v (Stp.refl _ _ _ _) (Live.refl _) R ⟨h1, _, e⟩⟩
      | xn c fs => simp [eN, e, Out.OK] at h
      | dd => simp [eN, e, Out.OK] at h
def eC (d : D) : ESem := fun ρ => .ok (.fz d) ρ
/-- a constant whose data lean on nothing -/
theorem se_const {e : Expr} {v : V} {d : D} (h : PE X e (tC v)) (r : ∀ F, Rep (bas X I) F v d) : SE X I W e (eC d) :=
  ⟨_, h, fun F ρ σ H R Q h => h F H v (Stp.refl _ _ _ _) (Live.refl _) R (r F)⟩
theorem se_int {i : Int} {j : Nat} {pos : Pos} : SE X I W (.Constant (.int i) j pos) (eC (.int i)) := se_const pe_int fun _ => .int i
theorem se_bl {b : Bool} {j : Nat} {pos : Pos} : SE X I W (.Constant (.bool b) j pos) (eC (.bl b)) := se_const pe_bl fun _ => .bl b
theorem se_non {j : Nat} {pos : Pos} : SE X I W (.Constant .none j pos) (eC .non) := se_const pe_non fun _ => .non
theorem se_str {x : Str} {j : Nat} {pos : Pos} : SE X I W (.Constant (.str x) j pos) (eC (.str x)) := se_const pe_str fun _ => .str x

/-! ### lists of expressions -/
def eF (f : ESem) : Env → Out D := fun ρ => (f ρ).bind fun r ρ1 => match frz ρ1 r with
  | some (d, ρ2) => .ok d ρ2
  | none => .no
def eL : List ESem → Env → Out (List D)
  | [], ρ => .ok [] ρ
  | f :: fs, ρ => (eF f ρ).bind fun d ρ1 => (eL fs ρ1).bind fun ds ρ2 => .ok (d :: ds) ρ2
def PostD (B : Bas) (F : Hp) (ρ : Env) (σ : St) (H : Hp) (d : D) (ρ' : Env) (Q : VK) : Prop :=
  ∀ F' H' v, Stp F ρ σ H F' ρ' σ H' → Live ρ ρ' → Rel B F' ρ' σ H' → Rep B F' v d → Q v H'
theorem SemG.frz {B : Bas} {t : TE} {f : ESem} (h : SemG B W t f (PostE B)) : SemG B W t (eF f) (PostD B) := by
  intro F ρ σ H R Q hq
  refine h F ρ σ H R Q ?_
  rw [eF, Out.OK_bind] at hq
  refine hq.imp (fun r ρ1 q F1 H1 v S1 L1 R1 r1 => ?_) fun c fs ρ1 q => q
  cases e : DL.frz ρ1 r with
  | none => rw [e] at q; exact q.elim
  | some p =>
    obtain ⟨d, ρ2⟩ := p
    rw [e] at q
    obtain ⟨F2, S2, L2, R2, r2, _⟩ := frz_ok R1 S1 r1 e
    exact q F2 H1 v S2 (L1.trans L2) R2 r2
theorem sl_nil : SL X I W [] (eL []) := ⟨_, pa_nil, fun F ρ σ H R Q h => h F H [] (Stp.refl _ _ _ _) (Live.refl _) R .nil⟩
theorem sl_cons {e : Expr} {es : List Expr} {f : ESem} {fs : List ESem} (h : SE X I W e f) (k : SL X I W es (eL fs)) (hs : starEach (e :: es) X.env = (false, eval e X.env) :: starEach es X.env := by rfl) : SL X I W (e :: es) (eL (f :: fs)) := by
  obtain ⟨t, p, m⟩ := h
  obtain ⟨u, q, n⟩ := k
  refine ⟨_, pa_cons p q hs, fun F ρ σ H R Q hq => ?_⟩
  rw [eL, Out.OK_bind] at hq
  refine m.frz F ρ σ H R _ (hq.imp (fun d ρ1 hq F1 H1 v S1 L1 R1 r1 => ?_) fun _ _ _ z => z)
  rw [Out.OK_bind] at hq
  refine n F1 ρ1 σ H1 R1 _ (hq.imp (fun ds ρ2 hq F2 H2 vs S2 L2 R2 r2 => ?_) fun _ _ _ z => z.back S1)
  exact hq F2 H2 (v :: vs) (S1.trans S2) (L1.trans L2) R2 (.cons (r1.mono S2.mono) r2)
def eTup (fs : List ESem) : ESem := fun ρ => (eL fs ρ).bind fun ds ρ1 => if ds.length ≤ sizeLine then .ok (.fz (.tup ds)) ρ1 else .no
def eLst (fs : List ESem) : ESem := fun ρ => (eL fs ρ).bind fun ds ρ1 => if ds.length ≤ sizeLine then .ok (.fr (.lst ds)) ρ1 else .no
theorem nohas {B : Bas} {F H : Hp} {ρ : Env} {σ : St} {p : Addr} (R : Rel B F ρ σ H) (hn : H p = none) (k : Nat) : ¬ HasAt ρ σ k p := fun ⟨sv, q1, q2, q3⟩ => by
  obtain ⟨v, g1, g2⟩ := R.sl k sv q1
  rw [q3] at g1; cases g1
  cases sv with
  | ow b o => obtain ⟨a, e, _, ho⟩ := g2; cases e; obtain ⟨u, hu⟩ := ho.some; rw [hn] at hu; cases hu
  | lk o => obtain ⟨a, e, _, ho⟩ := g2; cases e; obtain ⟨u, hu⟩ := ho.some; rw [hn] at hu; cases hu
  | _ => cases q2
theorem noF {B : Bas} {F H : Hp} {ρ : Env} {σ : St} {p : Addr} (R : Rel B F ρ σ H) (hn : H p = none) : F p = none := by
  cases w : F p with
  | none => rfl
  | some o => rw [R.ext _ _ w] at hn; cases hn
/-- a new list at p, held by nothing -/
theorem newList {B : Bas} {F0 H0 F H : Hp} {ρ0 ρ : Env} {σ0 σ : St} {p : Addr} {xs : List V} {ds : List D} (R : Rel B F ρ σ H) (S : Stp F0 ρ0 σ0 H0 F ρ σ H) (hn : H p = none) (r : RepL B F xs ds) :
    Stp F0 ρ0 σ0 H0 F ρ σ (upd H p (.lst xs)) ∧ Rel B F ρ σ (upd H p (.lst xs)) ∧ RvR B F ρ σ H0 (upd H p (.lst xs)) (.ref p) (.fr (.lst ds)) := by
  obtain ⟨R2, S2⟩ := R.alloc (u := .lst xs) hn
  exact ⟨S.trans S2, R2, p, rfl, S.dom _ hn, noF R hn, ⟨xs, upd_same, r⟩, nohas R hn⟩
/-- a new tuple at p -/
theorem newTup {B : Bas} {F0 H0 F H : Hp} {ρ0 ρ : Env} {σ0 σ : St} {p : Addr} {xs : List V} {ds : List D} (R : Rel B F ρ σ H) (S : Stp F0 ρ0 σ0 H0 F ρ σ H) (hn : H p = none) (r : RepL B F xs ds) :
    Stp F0 ρ0 σ0 H0 (upd F p (.tup xs)) ρ σ (upd H p (.tup xs)) ∧ Rel B (upd F p (.tup xs)) ρ σ (upd H p (.tup xs)) ∧ Rep B (upd F p (.tup xs)) (.ref p) (.tup ds) := by
  obtain ⟨R2, S2⟩ := R.alloc (u := .tup xs) hn
  have hf := noF R hn
  obtain ⟨R3, S3⟩ := R2.freeze (S.trans S2) upd_same hf (S.dom _ hn) (nohas R hn)
  exact ⟨S3, R3, .tup (SqT.of upd_same) (r.mono fun a o g => by rw [upd_ne (ne_of_none g hf)]; exact g)⟩
theorem se_tup {es : List Expr} {fs : List ESem} {x1 : Nat} {pos : Pos} (h : SL X I W es (eL fs)) : SE X I W (.Tuple es x1 pos) (eTup fs) := by
  obtain ⟨t, p, m⟩ := h
  refine ⟨_, pe_tup p, fun F ρ σ H R Q hq => ?_⟩
  rw [eTup, Out.OK_bind] at hq
  refine m F ρ σ H R _ (hq.imp (fun ds ρ1 hq F1 H1 vs S1 L1 R1 r1 => ?_) fun _ _ _ z => z)
  by_cases z : ds.length ≤ sizeLine
  · rw [if_pos z] at hq
    refine ⟨by rw [r1.length]; exact z, fun q hn => ?_⟩
    obtain ⟨S3, R3, r3⟩ := newTup R1 S1 hn r1
    exact hq _ _ _ S3 L1 R3 r3
  · rw [if_neg z] at hq; exact hq.elim
theorem se_lst {es : List Expr} {fs : List ESem} {pos : Pos} (h : SL X I W es (eL fs)) : SE X I W (.List es pos) (eLst fs) := by
  obtain ⟨t, p, m⟩ := h
  refine ⟨_, pe_lst p, fun F ρ σ H R Q hq => ?_⟩
  rw [eLst, Out.OK_bind] at hq
  refine m F ρ σ H R _ (hq.imp (fun ds ρ1 hq F1 H1 vs S1 L1 R1 r1 => ?_) fun _ _ _ z => z)
  by_cases z : ds.length ≤ sizeLine
  · rw [if_pos z] at hq
    refine ⟨by rw [r1.length]; exact z, fun q hn => ?_⟩
    obtain ⟨S2, R2, v2⟩ := newList R1 S1 hn r1
    exact hq _ _ _ S2 L1 R2 v2
  · rw [if_neg z] at hq; exact hq.elim
end
end DL
end
section
/-! D3: operators over plain data. -/
namespace DL
open PySem PySem.Spec L2

/-! ### data without objects, for == -/
mutual
def D.pd : D → Option PyData
  | .non => some .none
  | .bl b => some (.bool b)
  | .int i => some (.int i)
  | .str x => some (.str x)
  | .tup xs => (pdL xs).map .tuple
  | .lst xs => (pdL xs).map .list
  | .scr _ => none
  | .ins _ _ => none
def pdL : List D → Option (List PyData)
  | [] => some []
  | x :: xs => match x.pd, pdL xs with
    | some a, some b => some (a :: b)
    | _, _ => none
end
mutual
theorem Rep.dp {B : Bas} {F H : Hp} (m : ∀ a o, F a = some o → H a = some o) : ∀ {v : V} {d : D} {p : PyData}, Rep B F v d → d.pd = some p → Dp B.K H v p
  | _, _, _, .non, e => by simp only [D.pd] at e; cases e; exact .non
  | _, _, _, .bl b, e => by simp only [D.pd] at e; cases e; exact .bl b
  | _, _, _, .int i, e => by simp only [D.pd] at e; cases e; exact .int i
  | _, _, _, .str x, e => by simp only [D.pd] at e; cases e; exact .str x
  | _, .tup ds, _, .tup h l, e => by
    simp only [D.pd] at e
    cases q : pdL ds with
    | none => rw [q] at e; cases e
    | some ps => rw [q] at e; cases e; exact .tup (sqt_mono m h) (l.dp m q)
  | _, .lst ds, _, .lst h l, e => by
    simp only [D.pd] at e
    cases q : pdL ds with
    | none => rw [q] at e; cases e
    | some ps => rw [q] at e; cases e; exact .lst (SqL.of (m _ _ h)) (l.dp m q)
  | _, _, _, .scr _, e => by simp only [D.pd] at e; cases e
  | _, _, _, .ins _ _ _ _, e => by simp only [D.pd] at e; cases e
theorem RepL.dp {B : Bas} {F H : Hp} (m : ∀ a o, F a = some o → H a = some o) : ∀ {v : List V} {d : List D} {p : List PyData}, RepL B F v d → pdL d = some p → DpAll B.K H v p
  | _, _, _, .nil, e => by simp only [pdL] at e; cases e; exact .nil
  | _, d :: ds, _, .cons h l, e => by
    simp only [pdL] at e
    cases q : d.pd with
    | none => rw [q] at e; cases e
    | some a =>
      cases q2 : pdL ds with
      | none => rw [q, q2] at e; cases e
      | some b => rw [q, q2] at e; cases e; exact .cons (h.dp m q) (l.dp m q2)
end
theorem RdR.dp {B : Bas} {F H : Hp} (m : ∀ a o, F a = some o → H a = some o) {v : V} {d : D} {p : PyData} (h : RdR B F H v d) (e : d.pd = some p) : Dp B.K H v p := by
  rcases h with h | ⟨a, xs, ds, rfl, rfl, h1, h2⟩
  · exact h.dp m e
  · simp only [D.pd] at e
    cases q : pdL ds with
    | none => rw [q] at e; cases e
    | some ps => rw [q] at e; cases e; exact .lst (SqL.of h1) (h2.dp m q)

/-! ### what is read -/
section
variable {B : Bas} {F H : Hp} {v : V}
theorem RdR.int {i : Int} (h : RdR B F H v (.int i)) : v = .int i := by
  rcases h with h | ⟨a, xs, ds, rfl, e, _⟩
  · cases h; rfl
  · cases e
theorem RdR.str {i : Str} (h : RdR B F H v (.str i)) : v = .str i := by
  rcases h with h | ⟨a, xs, ds, rfl, e, _⟩
  · cases h; rfl
  · cases e
theorem RdR.bl {i : Bool} (h : RdR B F H v (.bl i)) : v = .bl i := by
  rcases h with h | ⟨a, xs, ds, rfl, e, _⟩
  · cases h; rfl
  · cases e
theorem RdR.non (h : RdR B F H v .non) : v = .non := by
  rcases h with h | ⟨a, xs, ds, rfl, e, _⟩
  · cases h; rfl
  · cases e
theorem RdR.tup {ds : List D} (h : RdR B F H v (.tup ds)) : ∃ a xs, v = .ref a ∧ SqT B.K F a xs ∧ RepL B F xs ds := by
  rcases h with h | ⟨a, xs, ds, rfl, e, _⟩
  · cases h with
    | tup h l => exact ⟨_, _, rfl, h, l⟩
  · cases e
theorem RdR.lst {ds : List D} (m : ∀ a o, F a = some o → H a = some o) (h : RdR B F H v (.lst ds)) : ∃ a xs, v = .ref a ∧ H a = some (.lst xs) ∧ RepL B F xs ds := by
  rcases h with h | ⟨a, xs, ds, rfl, e, h1, h2⟩
  · cases h with
    | lst h l => exact ⟨_, _, rfl, m _ _ h, l⟩
  · cases e; exact ⟨_, _, rfl, h1, h2⟩
theorem RdR.scr {ns : List Int} (h : RdR B F H v (.scr ns)) : ∃ a, v = .ref a ∧ SqL B.K F a (ns.map V.int) := by
  rcases h with h | ⟨a, xs, ds, rfl, e, _⟩
  · cases h with
    | scr h => exact ⟨_, rfl, h⟩
  · cases e
/-- one thing or the other is None -/
theorem RdR.isNon {d : D} (h : RdR B F H v d) : decide (v = .non) = (match d with | .non => true | _ => false) := by
  rcases h with h | ⟨a, xs, ds, rfl, rfl, _⟩
  · cases h <;> simp
  · simp
end

/-! ### operators of two places -/
def OpS (B : Bas) (r : R2) (g : D → D → Option RV) : Prop := ∀ F ρ σ H v u x y rv, Rel B F ρ σ H → RdR B F H v x → RdR B F H u y → g x y = some rv → ∀ Q : VK,
  (∀ F' H' w, Stp F ρ σ H F' ρ σ H' → Rel B F' ρ σ H' → RvR B F' ρ σ H H' w rv → Q w H') → r v u H Q
def orO (g g' : D → D → Option RV) : D → D → Option RV := fun x y => match g x y with | some r => some r | none => g' x y
theorem OpS.or {B : Bas} {r r' : R2} {g g' : D → D → Option RV} (h : OpS B r g) (h' : OpS B r' g') : OpS B (fun x y H Q => r x y H Q ∨ r' x y H Q) (orO g g') := by
  intro F ρ σ H v u x y rv R hv hu e Q q
  unfold orO at e
  cases z : g x y with
  | some r0 => rw [z] at e; cases e; exact .inl (h F ρ σ H v u x y _ R hv hu z Q q)
  | none => rw [z] at e; exact .inr (h' F ρ σ H v u x y _ R hv hu e Q q)
def eOp (g : D → D → Option RV) (fa fb : ESem) : ESem := fun ρ => (fa ρ).bind fun ra ρ1 => (fb ρ1).bind fun rb ρ2 => match rd ρ2 ra, rd ρ2 rb with
  | some x, some y => (match g x y with | some r => .ok r ρ2 | none => .no)
  | _, _ => .no
section
variable {X : Cx} {I : Addr → Value → Option Addr → Prop} {W : WX} {a b : Expr} {fa fb : ESem} {pos : Pos}
theorem sem_op {B : Bas} {r : R2} {g : D → D → Option RV} {ta tb : TE} (hg : OpS B r g) (ma : SemG B W ta fa (PostE B)) (mb : SemG B W tb fb (PostE B)) : SemG B W (tOp r ta tb) (eOp g fa fb) (PostE B) := by
  intro F ρ σ H R Q hq
  rw [eOp, Out.OK_bind] at hq
  refine ma F ρ σ H R _ (hq.imp (fun ra ρ1 hq F1 H1 v S1 L1 R1 r1 => ?_) fun _ _ _ z => z)
  rw [Out.OK_bind] at hq
  refine mb F1 ρ1 σ H1 R1 _ (hq.imp (fun rb ρ2 hq F2 H2 u S2 L2 R2 r2 => ?_) fun _ _ _ z => z.back S1)
  cases ea : rd ρ2 ra with
  | none => rw [ea] at hq; exact hq.elim
  | some x =>
    cases eb : rd ρ2 rb with
    | none => rw [ea, eb] at hq; exact hq.elim
    | some y =>
      rw [ea, eb] at hq
      cases eg : g x y with
      | none => simp only [eg] at hq; exact hq.elim
      | some r0 =>
        simp only [eg] at hq
        refine hg F2 ρ2 σ H2 v u x y r0 R2 (rd_ok R2 (r1.next S2 L2) ea) (rd_ok R2 r2 eb) eg Q fun F' H' w S' R' r' => ?_
        exact hq F' H' w (S1.trans (S2.trans S')) (L1.trans L2) R' (r'.base fun a h => S1.dom a (S2.dom a h))
theorem se_op {op : Operator} {r : R2} {g : D → D → Option RV} (ho : OpR X (binaryOp op) r) (hg : OpS (bas X I) r g) (h : SE X I W a fa) (k : SE X I W b fb) : SE X I W (.BinOp a op b pos) (eOp g fa fb) := by
  obtain ⟨t, p, m⟩ := h
  obtain ⟨u, q, n⟩ := k
  exact ⟨_, pe_op ho p q, sem_op hg m n⟩
theorem se_cmp {op : CmpOp} {r : R2} {g : D → D → Option RV} (ho : OpR X (compareOp op) r) (hg : OpS (bas X I) r g) (h : SE X I W a fa) (k : SE X I W b fb) (hm : behindInMarks op b = false := by first | exact nobehind _ (by decide) (by decide) | rfl) :
    SE X I W (.Compare a [op] [b] pos) (eOp g fa fb) := by
  obtain ⟨t, p, m⟩ := h
  obtain ⟨u, q, n⟩ := k
  exact ⟨_, pe_cmpR ho p q hm, sem_op hg m n⟩
/-- a truth value out of an expression that gives one -/
def cB (f : ESem) : Env → Out Bool := fun ρ => (f ρ).bind fun r ρ1 => match r with
  | .fz (.bl b) => .ok b ρ1
  | _ => .no
theorem sem_cB {B : Bas} {t : TE} {f : ESem} (m : SemG B W t f (PostE B)) : SemG B W (tTest t) (cB f) (PostC B) := by
  intro F ρ σ H R Q hq
  rw [cB, Out.OK_bind] at hq
  refine m F ρ σ H R _ (hq.imp (fun ra ρ1 hq F1 H1 v S1 L1 R1 r1 => ?_) fun _ _ _ z => z)
  cases ra with
  | fz d =>
    cases d with
    | bl b => cases r1; exact ⟨b, rfl, hq F1 H1 S1 L1 R1⟩
    | _ => exact hq.elim
  | _ => exact hq.elim
theorem sc_cmp {op : CmpOp} {r : R2} {g : D → D → Option RV} (ho : OpR X (compareOp op) r) (hg : OpS (bas X I) r g) (h : SE X I W a fa) (k : SE X I W b fb) (hm : behindInMarks op b = false := by first | exact nobehind _ (by decide) (by decide) | rfl) :
    SC X I W (.Compare a [op] [b] pos) (cB (eOp g fa fb)) := by
  obtain ⟨t, p, m⟩ := h
  obtain ⟨u, q, n⟩ := k
  exact ⟨_, pt_cmpR ho p q hm, sem_cB (sem_op hg m n)⟩
end

/-! ### the operators -/
def ret1 {B : Bas} {F H : Hp} {ρ : Env} {σ : St} (R : Rel B F ρ σ H) {w : V} {rv : RV} {Q : VK} (q : ∀ F' H' w, Stp F ρ σ H F' ρ σ H' → Rel B F' ρ σ H' → RvR B F' ρ σ H H' w rv → Q w H') (h : RvR B F ρ σ H H w rv) : Q w H := q F H w (Stp.refl _ _ _ _) R h
section
variable {B : Bas}
def gI0 (k : Int → Int → D) : D → D → Option RV
  | .int i, .int j => some (.fz (k i j))
  | _, _ => none
theorem ops_I0 {k : Int → Int → V} {k' : Int → Int → D} (hk : ∀ F i j, Rep B F (k i j) (k' i j)) : OpS B (rI0 k) (gI0 k') := by
  intro F ρ σ H v u x y rv R hv hu e Q q
  cases x <;> cases y <;> simp only [gI0] at e <;> cases e
  rename_i i j
  exact ⟨i, j, hv.int, hu.int, ret1 R q (hk F i j)⟩
def gI (c : Int → Int → Bool) (k : Int → Int → D) : D → D → Option RV
  | .int i, .int j => if c i j then some (.fz (k i j)) else none
  | _, _ => none
theorem ops_I {C : Int → Int → Prop} {c : Int → Int → Bool} {k : Int → Int → V} {k' : Int → Int → D} (hc : ∀ i j, c i j = true → C i j) (hk : ∀ F i j, Rep B F (k i j) (k' i j)) : OpS B (rI C k) (gI c k') := by
  intro F ρ σ H v u x y rv R hv hu e Q q
  cases x <;> cases y <;> simp only [gI] at e <;> try cases e
  rename_i i j
  cases z : c i j with
  | false => rw [z] at e; cases e
  | true => rw [z] at e; cases e; exact ⟨i, j, hv.int, hu.int, hc i j z, ret1 R q (hk F i j)⟩
end
end DL
end
section
/-! D4: the operators, one by one. -/
namespace DL
open PySem PySem.Spec L2

section
variable {B : Bas}
/-! ### + -/
def addD : D → D → Option RV
  | .int i, .int j => some (.fz (.int (i + j)))
  | .str a, .str b => if a.length + b.length ≤ sizeLine then some (.fz (.str (a ++ b))) else none
  | .lst a, .lst b => if a.length + b.length ≤ sizeLine then some (.fr (.lst (a ++ b))) else none
  | .tup a, .tup b => if a.length + b.length ≤ sizeLine then some (.fz (.tup (a ++ b))) else none
  | _, _ => none
def rAddA (K : PySem.W.Frag) : R2 := fun x y H Q => rI0 (fun i j => .int (i + j)) x y H Q ∨ (∃ i j, x = .str i ∧ y = .str j ∧ i.length + j.length ≤ sizeLine ∧ Q (.str (i ++ j)) H) ∨ rCat x y H Q ∨ rCatA K x y H Q
theorem op_addA {X : Cx} : OpR X (binaryOp .Add) (rAddA X.K) := op_add.or (op_add_str.or (op_cat.or op_catA))
theorem ops_add : OpS B (rAddA B.K) addD := by
  intro F ρ σ H v u x y rv R hv hu e Q q
  cases x <;> cases y <;> simp only [addD] at e <;> try cases e
  · exact .inl ⟨_, _, hv.int, hu.int, ret1 R q (.int _)⟩
  · rename_i a b
    split at e
    · rename_i z; cases e; exact .inr (.inl ⟨a, b, hv.str, hu.str, z, ret1 R q (.str _)⟩)
    · cases e
  · rename_i a b
    split at e
    · rename_i z
      cases e
      obtain ⟨p, xs, rfl, h1, l1⟩ := hv.tup
      obtain ⟨p', ys, rfl, h2, l2⟩ := hu.tup
      refine .inr (.inr (.inr ⟨p, p', xs, ys, rfl, rfl, sqt_mono R.ext h1, sqt_mono R.ext h2, by rw [l1.length, l2.length]; exact z, fun w => ?_, fun _ w => ?_, fun _ _ r hn => ?_⟩))
      · subst w; cases l1; exact ret1 R q (.tup h2 l2)
      · subst w; cases l2; rw [List.append_nil] at q; exact ret1 R q (.tup h1 l1)
      · obtain ⟨S, R', r'⟩ := newTup R (Stp.refl _ _ _ _) hn (l1.append l2)
        exact q _ _ _ S R' r'
    · cases e
  · rename_i a b
    split at e
    · rename_i z
      cases e
      obtain ⟨p, xs, rfl, h1, l1⟩ := hv.lst R.ext
      obtain ⟨p', ys, rfl, h2, l2⟩ := hu.lst R.ext
      refine .inr (.inr (.inl ⟨p, p', xs, ys, rfl, rfl, h1, h2, by rw [l1.length, l2.length]; exact z, fun r hn => ?_⟩))
      obtain ⟨S, R', r'⟩ := newList R (Stp.refl _ _ _ _) hn (l1.append l2)
      exact q _ _ _ S R' r'
    · cases e
/-! ### -, *, //, %, ** -/
def subD : D → D → Option RV := gI0 fun i j => .int (i - j)
theorem ops_sub : OpS B (rI0 fun i j => .int (i - j)) subD := ops_I0 fun _ _ _ => .int _
def divD : D → D → Option RV := gI (fun _ j => decide (0 < j) && decide (j < 1073741824)) fun i j => .int (i / j)
theorem ops_div : OpS B (rI CDiv fun i j => .int (i / j)) divD := ops_I (fun i j h => by simpa [CDiv] using h) fun _ _ _ => .int _
def modD : D → D → Option RV := gI (fun _ j => decide (0 < j)) fun i j => .int (i % j)
theorem ops_mod : OpS B (rI (fun _ j => 0 < j) fun i j => .int (i % j)) modD := ops_I (fun i j h => by simpa using h) fun _ _ _ => .int _
def powD : D → D → Option RV := gI (fun i j => decide (0 ≤ j) && (decide (j ≤ 1000000) && decide (i.natAbs < 2 ^ 64))) fun i j => .int (i ^ j.toNat)
theorem ops_pow : OpS B (rI CPow fun i j => .int (i ^ j.toNat)) powD := ops_I (fun i j h => by simpa [CPow] using h) fun _ _ _ => .int _
def mulD : D → D → Option RV
  | .int i, .int j => if i.natAbs.log2 + j.natAbs.log2 < 1000000 then some (.fz (.int (i * j))) else none
  | .lst a, .int k => if -(2 ^ 63) ≤ k ∧ k < 2 ^ 63 ∧ a.length * k.toNat ≤ sizeLine then some (.fr (.lst (List.replicate k.toNat a).flatten)) else none
  | _, _ => none
def rMulA : R2 := fun x y H Q => rI CMulW (fun i j => .int (i * j)) x y H Q ∨ rRep x y H Q
theorem op_mulA {X : Cx} : OpR X (binaryOp .Mult) rMulA := op_mulW.or op_rep
theorem RepL.rep {F : Hp} {vs : List V} {ds : List D} (h : RepL B F vs ds) : ∀ k : Nat, RepL B F (List.replicate k vs).flatten (List.replicate k ds).flatten
  | 0 => .nil
  | k + 1 => by simp only [List.replicate_succ, List.flatten_cons]; exact h.append (RepL.rep h k)
theorem ops_mul : OpS B rMulA mulD := by
  intro F ρ σ H v u x y rv R hv hu e Q q
  cases x <;> cases y <;> simp only [mulD] at e <;> try cases e
  · split at e
    · rename_i z; cases e; exact .inl ⟨_, _, hv.int, hu.int, z, ret1 R q (.int _)⟩
    · cases e
  · split at e
    · rename_i z
      cases e
      obtain ⟨p, xs, rfl, h1, l1⟩ := hv.lst R.ext
      refine .inr ⟨p, _, xs, rfl, hu.int, h1, z.1, z.2.1, by rw [l1.length]; exact z.2.2, fun r hn => ?_⟩
      obtain ⟨S, R', r'⟩ := newList R (Stp.refl _ _ _ _) hn (l1.rep _)
      exact q _ _ _ S R' r'
    · cases e
/-! ### orders of ints -/
def cmpD (p : Int → Int → Bool) : D → D → Option RV := gI0 fun i j => .bl (p i j)
theorem ops_cmp {p : Int → Int → Bool} : OpS B (rI0 fun i j => .bl (p i j)) (cmpD p) := ops_I0 fun _ _ _ => .bl _
abbrev ltD := cmpD fun i j => decide (i < j)
abbrev leD := cmpD fun i j => decide (i ≤ j)
abbrev gtD := cmpD fun i j => decide (j < i)
abbrev geD := cmpD fun i j => decide (j ≤ i)
/-! ### ==, != of data -/
def deq (x y : D) : Option Bool := match x.pd, y.pd with
  | some a, some b => if SeqAt.shaped a && SeqAt.shaped b then some (PyData.eqv a b) else none
  | _, _ => none
theorem deq_dp {F H : Hp} {v u : V} {x y : D} {b : Bool} (m : ∀ a o, F a = some o → H a = some o) (hv : RdR B F H v x) (hu : RdR B F H u y) (e : deq x y = some b) :
    ∃ d f, Dp B.K H v d ∧ Dp B.K H u f ∧ SeqAt.shaped d = true ∧ SeqAt.shaped f = true ∧ PyData.eqv d f = b := by
  unfold deq at e
  cases ex : x.pd with
  | none => rw [ex] at e; cases e
  | some d =>
    cases ey : y.pd with
    | none => rw [ex, ey] at e; cases e
    | some f =>
      rw [ex, ey] at e
      dsimp only at e
      split at e
      · rename_i z
        rw [Bool.and_eq_true] at z
        cases e
        exact ⟨d, f, hv.dp m ex, hu.dp m ey, z.1, z.2, rfl⟩
      · cases e
def eqD (x y : D) : Option RV := match x, y with
  | .str a, .str b => some (.fz (.bl (decide (a = b))))
  | x, y => (deq x y).map fun b => .fz (.bl b)
def neD (x y : D) : Option RV := match x, y with
  | .str a, .str b => some (.fz (.bl (!decide (a = b))))
  | x, y => (deq x y).map fun b => .fz (.bl (!b))
def rEqA (K : PySem.W.Frag) : R2 := fun x y H Q => rEq x y H Q ∨ rEqD K x y H Q
def rNeA (K : PySem.W.Frag) : R2 := fun x y H Q => rNe x y H Q ∨ rNeD K x y H Q
theorem op_eqA {X : Cx} (hu : X.A.units + 64 < cLine) : OpR X (compareOp .Eq) (rEqA X.K) := op_eq.or (op_eqD hu)
theorem op_neA {X : Cx} (hu : X.A.units + 64 < cLine) : OpR X (compareOp .NotEq) (rNeA X.K) := op_ne.or (op_neD hu)
theorem dec_strV {a b : Str} : decide (V.str a = V.str b) = decide (a = b) := by
  by_cases h : a = b
  · subst h; simp
  · rw [decide_eq_false h, decide_eq_false (fun e => h (by injection e))]
theorem ops_eq : OpS B (rEqA B.K) eqD := by
  intro F ρ σ H v u x y rv R hv hu e Q q
  unfold eqD at e
  split at e
  · cases e
    refine .inl ?_
    rw [hv.str, hu.str]
    refine ⟨rfl, ?_⟩
    rw [dec_strV]
    exact ret1 R q (.bl _)
  · cases z : deq x y with
    | none => rw [z] at e; cases e
    | some b =>
      rw [z] at e; cases e
      obtain ⟨d, f, h1, h2, s1, s2, rfl⟩ := deq_dp R.ext hv hu z
      exact .inr ⟨d, f, h1, h2, s1, s2, ret1 R q (.bl _)⟩
theorem ops_ne : OpS B (rNeA B.K) neD := by
  intro F ρ σ H v u x y rv R hv hu e Q q
  unfold neD at e
  split at e
  · cases e
    refine .inl ?_
    rw [hv.str, hu.str]
    refine ⟨rfl, ?_⟩
    rw [dec_strV]
    exact ret1 R q (.bl _)
  · cases z : deq x y with
    | none => rw [z] at e; cases e
    | some b =>
      rw [z] at e; cases e
      obtain ⟨d, f, h1, h2, s1, s2, rfl⟩ := deq_dp R.ext hv hu z
      exact .inr ⟨d, f, h1, h2, s1, s2, ret1 R q (.bl _)⟩
/-! ### is None -/
def D.isNon : D → Bool
  | .non => true
  | _ => false
def isD : D → D → Option RV
  | x, .non => some (.fz (.bl x.isNon))
  | _, _ => none
def isntD : D → D → Option RV
  | x, .non => some (.fz (.bl (!x.isNon)))
  | _, _ => none
theorem RdR.isN {F H : Hp} {v : V} {d : D} (h : RdR B F H v d) : decide (v = .non) = d.isNon := by
  rcases h with h | ⟨a, xs, ds, rfl, rfl, _⟩
  · cases h <;> simp [D.isNon]
  · simp [D.isNon]
theorem ops_is : OpS B (fun x y H Q => y = .non ∧ Q (.bl (decide (x = .non))) H) isD := by
  intro F ρ σ H v u x y rv R hv hu e Q q
  cases y <;> simp only [isD] at e <;> cases e
  refine ⟨hu.non, ?_⟩
  rw [hv.isN]
  exact ret1 R q (.bl _)
theorem ops_isnt : OpS B (fun x y H Q => y = .non ∧ Q (.bl (!decide (x = .non))) H) isntD := by
  intro F ρ σ H v u x y rv R hv hu e Q q
  cases y <;> simp only [isntD] at e <;> cases e
  refine ⟨hu.non, ?_⟩
  rw [hv.isN]
  exact ret1 R q (.bl _)
/-! ### in, not in -/
end
section
variable {X : Cx}
def rInTD (K : PySem.W.Frag) (n : Bool) : R2 := fun x y H Q => ∃ d ds, Dp K H x d ∧ Dp K H y (.tuple ds) ∧ SeqAt.shaped d = true ∧ SeqAt.shaped (.tuple ds) = true ∧ Q (.bl (if n then !ds.any fun z => PyData.eqv z d else ds.any fun z => PyData.eqv z d)) H
theorem canAll_of_tuple {ds : List PyData} (h : SeqAt.shaped (.tuple ds) = true) : PyData.canLayAll0 ds = true := by
  have := SeqAt.canLay_of_shaped h
  simpa only [PyData.canLay0] using this
theorem room_inT {d : PyData} {ds : List PyData} {u : Nat} (h : SeqAt.shaped d = true) (hu : u + 65 < cLine) : u + 1 + min (PyData.depthAll ds) d.depth < cLine := by
  have h1 := SeqAt.depth_of_shaped h
  have h2 : min (PyData.depthAll ds) d.depth ≤ d.depth := Nat.min_le_right _ _
  omega
theorem op_inTD (hu : X.A.units + 65 < cLine) : OpR X (compareOp .In) (rInTD X.K false) := by
  intro pins s σ H x y v u Q I rx ry h
  obtain ⟨d, ds, hd, he, sd, se, q⟩ := h
  obtain ⟨as, r1⟩ := Dp.reads I d x v hd rx
  obtain ⟨bs, r2⟩ := Dp.reads I (.tuple ds) y u he ry
  exact SeqAt.in_tuple_reads r2 r1 (canAll_of_tuple se) (SeqAt.canLay_of_shaped sd) (room_inT sd hu) ⟨.bl _, H, I, rfl, q⟩
theorem op_notInTD (hu : X.A.units + 65 < cLine) : OpR X (compareOp .NotIn) (rInTD X.K true) := by
  intro pins s σ H x y v u Q I rx ry h
  obtain ⟨d, ds, hd, he, sd, se, q⟩ := h
  obtain ⟨as, r1⟩ := Dp.reads I d x v hd rx
  obtain ⟨bs, r2⟩ := Dp.reads I (.tuple ds) y u he ry
  exact SeqAt.notIn_tuple_reads r2 r1 (canAll_of_tuple se) (SeqAt.canLay_of_shaped sd) (room_inT sd hu) ⟨.bl _, H, I, rfl, q⟩
end
/-- x in y -/
def din (x y : D) : Option Bool := match y with
  | .tup ys => (match x.pd, pdL ys with | some d, some ds => if SeqAt.shaped d && SeqAt.shaped (.tuple ds) then some (ds.any fun z => PyData.eqv z d) else none | _, _ => none)
  | .lst ys => (match x.pd, pdL ys with | some d, some ds => if SeqAt.shaped d && SeqAt.shaped (.list ds) then some (ds.any fun z => PyData.eqv z d) else none | _, _ => none)
  | .str z => (match x with | .str ⟨⟨[c]⟩⟩ => some (decide (c ∈ z.cps.toList)) | _ => none)
  | _ => none
def inD (x y : D) : Option RV := (din x y).map fun b => .fz (.bl b)
def ninD (x y : D) : Option RV := (din x y).map fun b => .fz (.bl (!b))
def rInA (K : PySem.W.Frag) : R2 := fun x y H Q => rInTD K false x y H Q ∨ rInD K x y H Q ∨ (∃ (c : Nat) (z : Str), x = .str ⟨#[c]⟩ ∧ y = .str z ∧ Q (.bl (decide (c ∈ z.cps.toList))) H)
def rNinA (K : PySem.W.Frag) : R2 := fun x y H Q => rInTD K true x y H Q ∨ rNotInD K x y H Q ∨ (∃ (c : Nat) (z : Str), x = .str ⟨#[c]⟩ ∧ y = .str z ∧ Q (.bl (!decide (c ∈ z.cps.toList))) H)
theorem op_inA {X : Cx} (hu : X.A.units + 65 < cLine) : OpR X (compareOp .In) (rInA X.K) := (op_inTD hu).or ((op_inD hu).or op_in_sign)
theorem op_ninA {X : Cx} (hu : X.A.units + 65 < cLine) : OpR X (compareOp .NotIn) (rNinA X.K) := (op_notInTD hu).or ((op_notInD hu).or op_notIn_sign)
section
variable {B : Bas}
theorem din_rule {F H : Hp} {v u : V} {x y : D} {b : Bool} {P : Bool → Prop} (m : ∀ a o, F a = some o → H a = some o) (hv : RdR B F H v x) (hu : RdR B F H u y) (e : din x y = some b) (p : P b) :
    (∃ d ds, Dp B.K H v d ∧ Dp B.K H u (.tuple ds) ∧ SeqAt.shaped d = true ∧ SeqAt.shaped (.tuple ds) = true ∧ P (ds.any fun z => PyData.eqv z d)) ∨
    (∃ d ds, Dp B.K H v d ∧ Dp B.K H u (.list ds) ∧ SeqAt.shaped d = true ∧ SeqAt.shaped (.list ds) = true ∧ P (ds.any fun z => PyData.eqv z d)) ∨
    ∃ (c : Nat) (z : Str), v = .str ⟨#[c]⟩ ∧ u = .str z ∧ P (decide (c ∈ z.cps.toList)) := by
  unfold din at e
  cases y with
  | tup ys =>
    dsimp only at e
    cases ex : x.pd with
    | none => rw [ex] at e; cases e
    | some d =>
      cases ey : pdL ys with
      | none => rw [ex, ey] at e; cases e
      | some ds =>
        rw [ex, ey] at e
        dsimp only at e
        split at e
        · rename_i z
          rw [Bool.and_eq_true] at z
          cases e
          exact .inl ⟨d, ds, hv.dp m ex, hu.dp m (by simp only [D.pd, ey, Option.map_some]), z.1, z.2, p⟩
        · cases e
  | lst ys =>
    dsimp only at e
    cases ex : x.pd with
    | none => rw [ex] at e; cases e
    | some d =>
      cases ey : pdL ys with
      | none => rw [ex, ey] at e; cases e
      | some ds =>
        rw [ex, ey] at e
        dsimp only at e
        split at e
        · rename_i z
          rw [Bool.and_eq_true] at z
          cases e
          exact .inr (.inl ⟨d, ds, hv.dp m ex, hu.dp m (by simp only [D.pd, ey, Option.map_some]), z.1, z.2, p⟩)
        · cases e
  | str z =>
    dsimp only at e
    split at e
    · rename_i c
      cases e
      exact .inr (.inr ⟨c, z, hv.str, hu.str, p⟩)
    · cases e
  | _ => cases e
theorem ops_in : OpS B (rInA B.K) inD := by
  intro F ρ σ H v u x y rv R hv hu e Q q
  unfold inD at e
  cases z : din x y with
  | none => rw [z] at e; cases e
  | some b =>
    rw [z] at e; cases e
    rcases din_rule (P := fun b => Q (.bl b) H) R.ext hv hu z (ret1 R q (.bl _)) with h | h | h
    · obtain ⟨d, ds, h1, h2, h3, h4, h5⟩ := h; exact .inl ⟨d, ds, h1, h2, h3, h4, h5⟩
    · exact .inr (.inl h)
    · exact .inr (.inr h)
theorem ops_nin : OpS B (rNinA B.K) ninD := by
  intro F ρ σ H v u x y rv R hv hu e Q q
  unfold ninD at e
  cases z : din x y with
  | none => rw [z] at e; cases e
  | some b =>
    rw [z] at e; cases e
    rcases din_rule (P := fun b => Q (.bl (!b)) H) R.ext hv hu z (ret1 R q (.bl _)) with h | h | h
    · obtain ⟨d, ds, h1, h2, h3, h4, h5⟩ := h; exact .inl ⟨d, ds, h1, h2, h3, h4, h5⟩
    · exact .inr (.inl h)
    · exact .inr (.inr h)
/-! ### items -/
def idxD : D → D → Option RV
  | .tup xs, .int i => (atI xs i).map .fz
  | .lst xs, .int i => (atI xs i).map .fz
  | .str z, .int i => if z.length ≤ sizeLine then (atI z.cps.toList i).map fun c => .fz (.str ⟨#[c]⟩) else none
  | _, _ => none
theorem atI_rep {F : Hp} {vs : List V} {ds : List D} {i : Int} {d : D} (l : RepL B F vs ds) (h : atI ds i = some d) : ∃ v, atI vs i = some v ∧ Rep B F v d := by
  unfold atI at h ⊢
  rw [l.length]
  cases e : ixN ds.length i with
  | none => rw [e] at h; cases h
  | some j => rw [e] at h; exact l.get h
theorem ops_idx : OpS B (rIx B.K) idxD := by
  intro F ρ σ H v u x y rv R hv hu e Q q
  cases x <;> cases y <;> simp only [idxD] at e <;> try cases e
  · split at e
    · rename_i z i hz
      cases w : atI z.cps.toList i with
      | none => rw [w] at e; cases e
      | some c => rw [w] at e; cases e; exact .inr (.inr ⟨z, i, c, hv.str, hu.int, hz, w, ret1 R q (.str _)⟩)
    · cases e
  · rename_i ds i
    obtain ⟨p, xs, rfl, h1, l1⟩ := hv.tup
    cases w : atI ds i with
    | none => rw [w] at e; cases e
    | some d =>
      rw [w] at e; cases e
      obtain ⟨v, hv1, hv2⟩ := atI_rep l1 w
      exact .inr (.inl ⟨p, xs, i, v, rfl, hu.int, sqt_mono R.ext h1, hv1, ret1 R q hv2⟩)
  · rename_i ds i
    obtain ⟨p, xs, rfl, h1, l1⟩ := hv.lst R.ext
    cases w : atI ds i with
    | none => rw [w] at e; cases e
    | some d =>
      rw [w] at e; cases e
      obtain ⟨v, hv1, hv2⟩ := atI_rep l1 w
      exact .inl ⟨p, xs, i, v, rfl, hu.int, SqL.of h1, hv1, ret1 R q hv2⟩
end
section
variable {X : Cx} {I : Addr → Value → Option Addr → Prop} {W : WX} {a b : Expr} {fa fb : ESem} {pos : Pos}
theorem se_idx (h : SE X I W a fa) (k : SE X I W b fb) (hs : PlainIx b) : SE X I W (.Subscript a b pos) (eOp idxD fa fb) := by
  obtain ⟨t, p, m⟩ := h
  obtain ⟨u, q, n⟩ := k
  exact ⟨_, pe_ix ix_seq p q hs, sem_op (B := bas X I) ops_idx m n⟩
end
/-! ### slices -/
def cutD (xs : List D) (lo hi : Option Int) : List D := (xs.drop (HT.sIx xs.length 0 lo)).take (HT.sIx xs.length xs.length hi - HT.sIx xs.length 0 lo)
def slcD (x : D) (lo hi : Option Int) : Option RV := match x with
  | .tup xs => some (.fz (.tup (cutD xs lo hi)))
  | .lst xs => some (.fr (.lst (cutD xs lo hi)))
  | .str z => if z.length ≤ sizeLine then some (.fz (.str (cutS z lo hi))) else none
  | _ => none
def eO (f : Option ESem) : Env → Out (Option Int) := match f with
  | none => fun ρ => .ok none ρ
  | some f => fun ρ => (f ρ).bind fun r ρ1 => match r with
    | .fz (.int i) => .ok (some i) ρ1
    | _ => .no
def eSlc (f : ESem) (lo hi : Option ESem) : ESem := fun ρ => (f ρ).bind fun r ρ1 => (eO lo ρ1).bind fun l ρ2 => (eO hi ρ2).bind fun h ρ3 => match rd ρ3 r with
  | some x => (match slcD x l h with | some r => .ok r ρ3 | none => .no)
  | none => .no
def PostO (B : Bas) (F : Hp) (ρ : Env) (σ : St) (H : Hp) (o : Option Int) (ρ' : Env) (Q : Option Int → Hp → Prop) : Prop :=
  ∀ F' H', Stp F ρ σ H F' ρ' σ H' → Live ρ ρ' → Rel B F' ρ' σ H' → Q o H'
def SO (X : Cx) (I : Addr → Value → Option Addr → Prop) (W : WX) (e : Option Expr) (f : Option ESem) : Prop := ∃ t, PO X e t ∧ SemG (bas X I) W t (eO f) (PostO (bas X I))
section
variable {X : Cx} {I : Addr → Value → Option Addr → Prop} {W : WX} {a : Expr} {f : ESem} {pos : Pos}
theorem so_none : SO X I W none none := ⟨_, po_none, fun F ρ σ H R Q h => h F H (Stp.refl _ _ _ _) (Live.refl _) R⟩
theorem so_some (h : SE X I W a f) : SO X I W (some a) (some f) := by
  obtain ⟨t, p, m⟩ := h
  refine ⟨_, po_some p, fun F ρ σ H R Q hq => ?_⟩
  simp only [eO] at hq
  rw [Out.OK_bind] at hq
  refine m F ρ σ H R _ (hq.imp (fun r ρ1 hq F1 H1 v S1 L1 R1 r1 => ?_) fun _ _ _ z => z)
  cases r with
  | fz d =>
    cases d with
    | int i => cases r1; exact ⟨i, rfl, hq F1 H1 S1 L1 R1⟩
    | _ => exact hq.elim
  | _ => exact hq.elim
theorem cutD_rep {B : Bas} {F : Hp} {vs : List V} {ds : List D} {lo hi : Option Int} (l : RepL B F vs ds) : RepL B F (cutV vs lo hi) (cutD ds lo hi) := by
  unfold cutV cutD
  rw [l.length]
  exact (l.drop _).take _
def rSlAll (K : PySem.W.Frag) : V → Option Int → Option Int → Hp → VK → Prop := fun x lo hi H Q => rSlA K x lo hi H Q ∨ rSlL K x lo hi H Q ∨ rSlS x lo hi H Q
theorem sl_all : SlR X (rSlAll X.K) := sl_tupA.or (sl_list.or sl_str)
theorem cutD_whole {ds : List D} {lo hi : Option Int} (h : HT.sIx ds.length 0 lo = 0 ∧ HT.sIx ds.length ds.length hi = ds.length) : cutD ds lo hi = ds := by
  unfold cutD
  rw [h.1, h.2]
  simp
theorem se_slc {p2 : Pos} {lo hi : Option Expr} {fl fh : Option ESem} (h : SE X I W a f) (hl : SO X I W lo fl) (hh : SO X I W hi fh) : SE X I W (.Subscript a (.Slice lo hi none p2) pos) (eSlc f fl fh) := by
  obtain ⟨t, p, m⟩ := h
  obtain ⟨tl, pl, ml⟩ := hl
  obtain ⟨th, ph, mh⟩ := hh
  refine ⟨_, pe_slice sl_all p pl ph, fun F ρ σ H R Q hq => ?_⟩
  rw [eSlc, Out.OK_bind] at hq
  refine m F ρ σ H R _ (hq.imp (fun r ρ1 hq F1 H1 v S1 L1 R1 r1 => ?_) fun _ _ _ z => z)
  rw [Out.OK_bind] at hq
  refine ml F1 ρ1 σ H1 R1 _ (hq.imp (fun l ρ2 hq F2 H2 S2 L2 R2 => ?_) fun _ _ _ z => z.back S1)
  rw [Out.OK_bind] at hq
  refine mh F2 ρ2 σ H2 R2 _ (hq.imp (fun h ρ3 hq F3 H3 S3 L3 R3 => ?_) fun _ _ _ z => z.back (S1.trans S2))
  have r3 := (r1.next S2 L2).next S3 L3
  have S13 := S1.trans (S2.trans S3)
  have L13 := L1.trans (L2.trans L3)
  cases er : rd ρ3 r with
  | none => rw [er] at hq; exact hq.elim
  | some x =>
    rw [er] at hq
    have hx := rd_ok R3 r3 er
    cases x with
    | tup ds =>
      obtain ⟨q, xs, rfl, h1, l1⟩ := hx.tup
      refine .inl ⟨q, xs, rfl, sqt_mono R3.ext h1, fun w => ?_, fun _ z hn => ?_⟩
      · rw [l1.length] at w
        have e := cutD_whole w
        simp only [slcD] at hq
        refine hq F3 H3 _ S13 L13 R3 ?_
        rw [e]
        exact .tup h1 l1
      · obtain ⟨S, R', r'⟩ := newTup R3 S13 hn (cutD_rep (lo := l) (hi := h) l1)
        exact hq _ _ _ S L13 R' r'
    | lst ds =>
      obtain ⟨q, xs, rfl, h1, l1⟩ := hx.lst R3.ext
      refine .inr (.inl ⟨q, xs, rfl, SqL.of h1, fun z hn => ?_⟩)
      obtain ⟨S, R', r'⟩ := newList R3 S13 hn (cutD_rep (lo := l) (hi := h) l1)
      exact hq _ _ _ S L13 R' r'
    | str z =>
      simp only [slcD] at hq
      by_cases hz : z.length ≤ sizeLine
      · rw [if_pos hz] at hq
        exact .inr (.inr ⟨z, hx.str, hz, hq F3 H3 _ S13 L13 R3 (Rep.str _)⟩)
      · rw [if_neg hz] at hq; exact hq.elim
    | _ => exact hq.elim
end
end DL
end
section
/-! D5: truth, and, or, not, calls of built-ins. -/
namespace DL
open PySem PySem.Spec L2

/-! ### truth -/
def truthD : D → Option Bool
  | .non => some false
  | .bl b => some b
  | .int i => some (i != 0)
  | .str y => if y.length ≤ sizeLine then some ((y.length : Int) != 0) else none
  | .tup xs => some (!xs.isEmpty)
  | .lst xs => some (!xs.isEmpty)
  | .scr ns => some (!ns.isEmpty)
  | .ins _ _ => none
theorem RepL.emp {B : Bas} {F : Hp} {vs : List V} {ds : List D} (l : RepL B F vs ds) : vs.isEmpty = ds.isEmpty := by cases l <;> rfl
theorem tru_rd {B : Bas} {F H : Hp} {v : V} {d : D} {b : Bool} (m : ∀ a o, F a = some o → H a = some o) (h : RdR B F H v d) (e : truthD d = some b) : TruV B.K v H b := by
  cases d with
  | non => cases e; rw [h.non]; rfl
  | bl x => cases e; rw [h.bl]; rfl
  | int i => cases e; rw [h.int]; rfl
  | str y =>
    simp only [truthD] at e
    split at e
    · rename_i z; cases e; rw [h.str]; exact ⟨z, rfl⟩
    · cases e
  | tup xs => cases e; obtain ⟨a, vs, rfl, h1, l⟩ := h.tup; exact .inr (.inl ⟨vs, sqt_mono m h1, by rw [l.emp]⟩)
  | lst xs => cases e; obtain ⟨a, vs, rfl, h1, l⟩ := h.lst m; exact .inl ⟨vs, SqL.of h1, by rw [l.emp]⟩
  | scr ns => cases e; obtain ⟨a, rfl, h1⟩ := h.scr; exact .inl ⟨_, sql_mono m h1, by cases ns <;> rfl⟩
  | ins c fs => cases e
section
variable {X : Cx} {I : Addr → Value → Option Addr → Prop} {W : WX} {a b c : Expr} {f g : ESem} {pos : Pos} {rest : List Expr}
def cT (f : ESem) : Env → Out Bool := fun ρ => (f ρ).bind fun r ρ1 => match rd ρ1 r with
  | some d => (match truthD d with | some b => .ok b ρ1 | none => .no)
  | none => .no
theorem sc_truth (h : SE X I W a f) (he : ∀ whole, isTrue a X.env whole = (do let v ← whole; standAt a.pos; holding [v] (truthy v)) := by intro _; rfl) : SC X I W a (cT f) := by
  obtain ⟨t, p, m⟩ := h
  refine ⟨_, pt_truth p he, fun F ρ σ H R Q hq => ?_⟩
  rw [cT, Out.OK_bind] at hq
  refine m F ρ σ H R _ (hq.imp (fun r ρ1 hq F1 H1 v S1 L1 R1 r1 => ?_) fun _ _ _ z => z)
  cases e : rd ρ1 r with
  | none => rw [e] at hq; exact hq.elim
  | some d =>
    simp only [e] at hq
    cases e2 : truthD d with
    | none => rw [e2] at hq; exact hq.elim
    | some b => rw [e2] at hq; exact ⟨b, tru_rd R1.ext (rd_ok R1 r1 e) e2, hq F1 H1 S1 L1 R1⟩
/-! ### and, or, not as tests -/
abbrev CSem := Env → Out Bool
def SW (X : Cx) (I : Addr → Value → Option Addr → Prop) (W : WX) (e : Expr) (f : CSem) : Prop := ∃ t, PW X e t ∧ SemG (bas X I) W t f (PostC (bas X I))
variable {cf cg ch : CSem}
def cAnd (f g : CSem) : CSem := fun ρ => (f ρ).bind fun k ρ1 => if k = true then g ρ1 else .ok false ρ1
def cOr (f g : CSem) : CSem := fun ρ => (f ρ).bind fun k ρ1 => if k = true then .ok true ρ1 else g ρ1
def cNot (f : CSem) : CSem := fun ρ => (f ρ).bind fun k ρ1 => .ok (!k) ρ1
theorem sw_and1 (h : SC X I W a cf) : SW X I W (.BoolOp .And [a] pos) cf := let ⟨t, p, m⟩ := h; ⟨t, pw_and1 p, m⟩
theorem sw_or1 (h : SC X I W a cf) : SW X I W (.BoolOp .Or [a] pos) cf := let ⟨t, p, m⟩ := h; ⟨t, pw_or1 p, m⟩
theorem SW.sc (h : SW X I W a cf) : SC X I W a cf := let ⟨t, p, m⟩ := h; ⟨t, p.pt, m⟩
theorem sw_and (h : SC X I W a cf) (k : SW X I W (.BoolOp .And (b :: rest) pos) cg) : SW X I W (.BoolOp .And (a :: b :: rest) pos) (cAnd cf cg) := by
  obtain ⟨t, p, m⟩ := h
  obtain ⟨u, q, n⟩ := k
  refine ⟨_, pw_and p q, fun F ρ σ H R Q hq => ?_⟩
  rw [cAnd, Out.OK_bind] at hq
  refine m F ρ σ H R _ (hq.imp (fun k ρ1 hq F1 H1 S1 L1 R1 => ?_) fun _ _ _ z => z)
  cases k with
  | true =>
    rw [if_pos rfl] at hq ⊢
    exact n F1 ρ1 σ H1 R1 _ (hq.imp (fun k ρ2 hq F2 H2 S2 L2 R2 => hq F2 H2 (S1.trans S2) (L1.trans L2) R2) fun _ _ _ z => z.back S1)
  | false =>
    rw [if_neg Bool.false_ne_true] at hq ⊢
    exact hq F1 H1 S1 L1 R1
theorem sw_or (h : SC X I W a cf) (k : SW X I W (.BoolOp .Or (b :: rest) pos) cg) : SW X I W (.BoolOp .Or (a :: b :: rest) pos) (cOr cf cg) := by
  obtain ⟨t, p, m⟩ := h
  obtain ⟨u, q, n⟩ := k
  refine ⟨_, pw_or p q, fun F ρ σ H R Q hq => ?_⟩
  rw [cOr, Out.OK_bind] at hq
  refine m F ρ σ H R _ (hq.imp (fun k ρ1 hq F1 H1 S1 L1 R1 => ?_) fun _ _ _ z => z)
  cases k with
  | false =>
    rw [if_neg Bool.false_ne_true] at hq ⊢
    exact n F1 ρ1 σ H1 R1 _ (hq.imp (fun k ρ2 hq F2 H2 S2 L2 R2 => hq F2 H2 (S1.trans S2) (L1.trans L2) R2) fun _ _ _ z => z.back S1)
  | true =>
    rw [if_pos rfl] at hq ⊢
    exact hq F1 H1 S1 L1 R1
theorem sc_not (h : SC X I W a cf) : SC X I W (.UnaryOp .Not a pos) (cNot cf) := by
  obtain ⟨t, p, m⟩ := h
  refine ⟨_, pt_not p, fun F ρ σ H R Q hq => ?_⟩
  rw [cNot, Out.OK_bind] at hq
  exact m F ρ σ H R _ (hq.imp (fun k ρ1 hq F1 H1 S1 L1 R1 => hq F1 H1 S1 L1 R1) fun _ _ _ z => z)
/-! ### .. as values -/
def eAnd (f g : ESem) : ESem := fun ρ => (f ρ).bind fun r ρ1 => match rd ρ1 r with
  | some d => (match truthD d with | some true => g ρ1 | some false => .ok r ρ1 | none => .no)
  | none => .no
def eOr (f g : ESem) : ESem := fun ρ => (f ρ).bind fun r ρ1 => match rd ρ1 r with
  | some d => (match truthD d with | some true => .ok r ρ1 | some false => g ρ1 | none => .no)
  | none => .no
def eNot (f : ESem) : ESem := fun ρ => (f ρ).bind fun r ρ1 => match rd ρ1 r with
  | some d => (match truthD d with | some b => .ok (.fz (.bl (!b))) ρ1 | none => .no)
  | none => .no
theorem PostE.fwd {B : Bas} {F F1 H H1 : Hp} {ρ ρ1 ρ' : Env} {σ : St} {rv : RV} {Q : VK} (S : Stp F ρ σ H F1 ρ1 σ H1) (L : Live ρ ρ1) (h : PostE B F ρ σ H rv ρ' Q) : PostE B F1 ρ1 σ H1 rv ρ' Q := fun F' H' v S' L' R' r' => h F' H' v (S.trans S') (L.trans L') R' (r'.base fun a z => S.dom a z)
theorem se_one {op : BoolOp} (h : SE X I W a f) : SE X I W (.BoolOp op [a] pos) f := let ⟨t, p, m⟩ := h; ⟨t, pe_one p, m⟩
theorem se_and (h : SE X I W a f) (k : SE X I W (.BoolOp .And (b :: rest) pos) g) : SE X I W (.BoolOp .And (a :: b :: rest) pos) (eAnd f g) := by
  obtain ⟨t, p, m⟩ := h
  obtain ⟨u, q, n⟩ := k
  refine ⟨_, pe_andT p q, fun F ρ σ H R Q hq => ?_⟩
  rw [eAnd, Out.OK_bind] at hq
  refine m F ρ σ H R _ (hq.imp (fun r ρ1 hq F1 H1 v S1 L1 R1 r1 => ?_) fun _ _ _ z => z)
  cases e : rd ρ1 r with
  | none => rw [e] at hq; exact hq.elim
  | some d =>
    simp only [e] at hq
    cases e2 : truthD d with
    | none => rw [e2] at hq; exact hq.elim
    | some k =>
      rw [e2] at hq
      refine ⟨k, tru_rd R1.ext (rd_ok R1 r1 e) e2, ?_⟩
      cases k with
      | true =>
        rw [if_pos rfl]
        exact n F1 ρ1 σ H1 R1 _ (hq.imp (fun _ _ z => z.fwd S1 L1) fun _ _ _ z => z.back S1)
      | false =>
        rw [if_neg Bool.false_ne_true]
        exact hq F1 H1 v S1 L1 R1 r1
theorem se_or (h : SE X I W a f) (k : SE X I W (.BoolOp .Or (b :: rest) pos) g) : SE X I W (.BoolOp .Or (a :: b :: rest) pos) (eOr f g) := by
  obtain ⟨t, p, m⟩ := h
  obtain ⟨u, q, n⟩ := k
  refine ⟨_, pe_orT p q, fun F ρ σ H R Q hq => ?_⟩
  rw [eOr, Out.OK_bind] at hq
  refine m F ρ σ H R _ (hq.imp (fun r ρ1 hq F1 H1 v S1 L1 R1 r1 => ?_) fun _ _ _ z => z)
  cases e : rd ρ1 r with
  | none => rw [e] at hq; exact hq.elim
  | some d =>
    simp only [e] at hq
    cases e2 : truthD d with
    | none => rw [e2] at hq; exact hq.elim
    | some k =>
      rw [e2] at hq
      refine ⟨k, tru_rd R1.ext (rd_ok R1 r1 e) e2, ?_⟩
      cases k with
      | false =>
        rw [if_neg Bool.false_ne_true]
        exact n F1 ρ1 σ H1 R1 _ (hq.imp (fun _ _ z => z.fwd S1 L1) fun _ _ _ z => z.back S1)
      | true =>
        rw [if_pos rfl]
        exact hq F1 H1 v S1 L1 R1 r1
theorem se_not (h : SE X I W a f) : SE X I W (.UnaryOp .Not a pos) (eNot f) := by
  obtain ⟨t, p, m⟩ := h
  refine ⟨_, pe_notT p, fun F ρ σ H R Q hq => ?_⟩
  rw [eNot, Out.OK_bind] at hq
  refine m F ρ σ H R _ (hq.imp (fun r ρ1 hq F1 H1 v S1 L1 R1 r1 => ?_) fun _ _ _ z => z)
  cases e : rd ρ1 r with
  | none => rw [e] at hq; exact hq.elim
  | some d =>
    simp only [e] at hq
    cases e2 : truthD d with
    | none => rw [e2] at hq; exact hq.elim
    | some k =>
      rw [e2] at hq
      exact ⟨k, tru_rd R1.ext (rd_ok R1 r1 e) e2, hq F1 H1 _ S1 L1 R1 (Rep.bl _)⟩
/-! ### a if c else b -/
def eIf (c : CSem) (f g : ESem) : ESem := fun ρ => (c ρ).bind fun k ρ1 => if k = true then f ρ1 else g ρ1
theorem se_if (hc : SC X I W c cf) (h : SE X I W a f) (k : SE X I W b g) : SE X I W (.IfExp c a b pos) (eIf cf f g) := by
  obtain ⟨tc, pc, mc⟩ := hc
  obtain ⟨t, p, m⟩ := h
  obtain ⟨u, q, n⟩ := k
  refine ⟨_, pe_ifExp pc p q, fun F ρ σ H R Q hq => ?_⟩
  rw [eIf, Out.OK_bind] at hq
  refine mc F ρ σ H R _ (hq.imp (fun k ρ1 hq F1 H1 S1 L1 R1 => ?_) fun _ _ _ z => z)
  cases k with
  | true =>
    rw [if_pos rfl] at hq ⊢
    exact m F1 ρ1 σ H1 R1 _ (hq.imp (fun _ _ z => z.fwd S1 L1) fun _ _ _ z => z.back S1)
  | false =>
    rw [if_neg Bool.false_ne_true] at hq ⊢
    exact n F1 ρ1 σ H1 R1 _ (hq.imp (fun _ _ z => z.fwd S1 L1) fun _ _ _ z => z.back S1)
/-! ### - n -/
def eNeg (f : ESem) : ESem := fun ρ => (f ρ).bind fun r ρ1 => match rd ρ1 r with
  | some (.int i) => .ok (.fz (.int (-i))) ρ1
  | _ => .no
theorem se_neg (h : SE X I W a f) : SE X I W (.UnaryOp .USub a pos) (eNeg f) := by
  obtain ⟨t, p, m⟩ := h
  refine ⟨_, pe_un un_neg p, fun F ρ σ H R Q hq => ?_⟩
  rw [eNeg, Out.OK_bind] at hq
  refine m F ρ σ H R _ (hq.imp (fun r ρ1 hq F1 H1 v S1 L1 R1 r1 => ?_) fun _ _ _ z => z)
  cases e : rd ρ1 r with
  | none => rw [e] at hq; exact hq.elim
  | some d =>
    rw [e] at hq
    cases d with
    | int i => exact ⟨i, (rd_ok R1 r1 e).int, hq F1 H1 _ S1 L1 R1 (Rep.int _)⟩
    | _ => exact hq.elim
/-! ### a < b < c -/
def eChain (p q : D → D → Option RV) (fa fb fc : ESem) : ESem := fun ρ => (fa ρ).bind fun ra ρ1 => (fb ρ1).bind fun rb ρ2 => match rd ρ2 ra, rd ρ2 rb with
  | some x, some y => (match p x y with
    | some (.fz (.bl true)) => (fc ρ2).bind fun rc ρ3 => (match rd ρ3 rb, rd ρ3 rc with
      | some y, some z => (match q y z with | some r => .ok r ρ3 | none => .no)
      | _, _ => .no)
    | some (.fz (.bl false)) => .ok (.fz (.bl false)) ρ2
    | _ => .no)
  | _, _ => .no
theorem sem_chain {B : Bas} {r r' : R2} {p q : D → D → Option RV} {ta tb tc : TE} {fa fb fc : ESem} (hp : OpS B r p) (hq' : OpS B r' q) (ma : SemG B W ta fa (PostE B)) (mb : SemG B W tb fb (PostE B)) (mc : SemG B W tc fc (PostE B)) :
    SemG B W (tChain r r' ta tb tc) (eChain p q fa fb fc) (PostE B) := by
  intro F ρ σ H R Q hq
  rw [eChain, Out.OK_bind] at hq
  refine ma F ρ σ H R _ (hq.imp (fun ra ρ1 hq F1 H1 v S1 L1 R1 r1 => ?_) fun _ _ _ z => z)
  rw [Out.OK_bind] at hq
  refine mb F1 ρ1 σ H1 R1 _ (hq.imp (fun rb ρ2 hq F2 H2 u S2 L2 R2 r2 => ?_) fun _ _ _ z => z.back S1)
  cases ea : rd ρ2 ra with
  | none => rw [ea] at hq; exact hq.elim
  | some x =>
    cases eb : rd ρ2 rb with
    | none => rw [ea, eb] at hq; exact hq.elim
    | some y =>
      simp only [ea, eb] at hq
      cases eg : p x y with
      | none => rw [eg] at hq; exact hq.elim
      | some r0 =>
        rw [eg] at hq
        refine hp F2 ρ2 σ H2 v u x y r0 R2 (rd_ok R2 (r1.next S2 L2) ea) (rd_ok R2 r2 eb) eg _ fun F3 H3 w S3 R3 r3 => ?_
        cases r0 with
        | fz d =>
          cases d with
          | bl k =>
            cases r3
            refine ⟨k, rfl, ?_⟩
            cases k with
            | false =>
              rw [if_neg Bool.false_ne_true]
              exact hq F3 H3 _ (S1.trans (S2.trans S3)) (L1.trans L2) R3 (Rep.bl _)
            | true =>
              rw [if_pos rfl]
              simp only at hq
              rw [Out.OK_bind] at hq
              have S13 := S1.trans (S2.trans S3)
              refine mc F3 ρ2 σ H3 R3 _ (hq.imp (fun rc ρ3 hq F4 H4 w S4 L4 R4 r4 => ?_) fun _ _ _ z => z.back S13)
              have r2' := (r2.next S3 (Live.refl _)).next S4 L4
              cases ey : rd ρ3 rb with
              | none => rw [ey] at hq; exact hq.elim
              | some y' =>
                cases ez : rd ρ3 rc with
                | none => rw [ey, ez] at hq; exact hq.elim
                | some z' =>
                  simp only [ey, ez] at hq
                  cases eq : q y' z' with
                  | none => rw [eq] at hq; exact hq.elim
                  | some r5 =>
                    rw [eq] at hq
                    refine hq' F4 ρ3 σ H4 u w y' z' r5 R4 (rd_ok R4 r2' ey) (rd_ok R4 r4 ez) eq Q fun F5 H5 w5 S5 R5 r6 => ?_
                    have S14 := S13.trans S4
                    exact hq F5 H5 w5 (S14.trans S5) ((L1.trans L2).trans L4) R5 (r6.base fun a z => S14.dom a z)
          | _ => exact hq.elim
        | _ => exact hq.elim
theorem se_chain {op op' : CmpOp} {r r' : R2} {p q : D → D → Option RV} {fa fb fc : ESem} (ho : OpR X (compareOp op) r) (hp : OpS (bas X I) r p) (ho' : OpR X (compareOp op') r') (hq : OpS (bas X I) r' q)
    (ha : SE X I W a fa) (hb : SE X I W b fb) (hc : SE X I W c fc) (hm : lastMarks [op, op'] [b, c] = false := by rfl) : SE X I W (.Compare a [op, op'] [b, c] pos) (eChain p q fa fb fc) := by
  obtain ⟨t, pa, m⟩ := ha
  obtain ⟨u, pb, n⟩ := hb
  obtain ⟨w, pc, o⟩ := hc
  exact ⟨_, pe_chain ho ho' pa pb pc hm, sem_chain hp hq m n o⟩
theorem sc_chain {op op' : CmpOp} {r r' : R2} {p q : D → D → Option RV} {fa fb fc : ESem} (ho : OpR X (compareOp op) r) (hp : OpS (bas X I) r p) (ho' : OpR X (compareOp op') r') (hq : OpS (bas X I) r' q)
    (ha : SE X I W a fa) (hb : SE X I W b fb) (hc : SE X I W c fc) (hm : lastMarks [op, op'] [b, c] = false := by rfl) : SC X I W (.Compare a [op, op'] [b, c] pos) (cB (eChain p q fa fb fc)) := by
  obtain ⟨t, pa, m⟩ := ha
  obtain ⟨u, pb, n⟩ := hb
  obtain ⟨w, pc, o⟩ := hc
  exact ⟨_, pt_chain ho ho' pa pb pc hm, sem_cB (sem_chain hp hq m n o)⟩
end
end DL
end
section
/-! DS: sorted() of a tuple of ints. -/
namespace DL
open PySem PySem.Spec L2 PyProof.Rows PySem.Builtin

section
variable {prog : Program} {w : World} {A : Around} {E : Value → Shared → Prop} {s : Shared}
theorem collect_tup {l : Addr} {vs : List Value} {Q : List Value → Shared → Prop} (hl : IsTup s.heap l vs.toArray)
    (h : Q vs { s with heap := (s.heap.push (seqObj "list" #[] 0)).update s.heap.objs.size (Obj.mapSeq (· ++ vs.toArray)) }) (hsz : vs.length ≤ sizeLine) :
    wpAny (model prog w) A (collect (.ref l)) Q E s := by
  obtain ⟨o, ho, hc, n, hd⟩ := id hl
  unfold collect
  refine wpAny_bind (wpAny_runValue (codeAny_builtin entry_proto_collect' ?_))
  show wpAny _ _ (do again (.builtin "list.__iadd__" ⟨[← PySem.newList [], .ref l], []⟩)) _ _ s
  refine wpAny_bind (wpAny_newList (wpAny_pure ⟨Code.quiet_builtin _ (by decide +kernel), codeAny_builtin entry_list_iadd' ?_⟩))
  show wpAny _ _ (Builtin.List.listExtendWith (.ref s.heap.objs.size) (.ref l) (.ref s.heap.objs.size)) _ _ { s with heap := s.heap.push (seqObj "list" #[] 0) }
  unfold Builtin.List.listExtendWith
  have ho' : (s.heap.push (seqObj "list" #[] 0)).get? l = some o := Heap.get?_push_of_some _ ho
  refine wpAny_bind (wpAny_typeOf (T := "tuple") ⟨o, ho', hc⟩ ?_)
  have ht : (Value.type "tuple" == Value.type "tuple") = true := by rfl
  rw [if_pos (by rw [ht]; simp)]
  refine wpAny_bind (listItems_at ho' hd ?_)
  refine wpAny_bind (listItems_at (xs := #[]) (n := 0) (Heap.get?_push_size _ rfl) rfl ?_)
  rw [if_neg (by simp)]
  refine wpAny_bind (listUpdate_at (xs := #[]) (n := 0) (Heap.get?_push_size _ rfl) rfl ?_ (Nat.zero_le _) (by show (#[] ++ vs.toArray).size ≤ sizeLine + 1; simp only [Array.size_append, List.size_toArray, List.length_nil]; omega))
  refine wpAny_pure ?_
  show wpAny (model prog w) A (do
      let o ← load s.heap.objs.size
      match o.data with
      | .seq xs _ => pure xs.toList
      | _ => unsupported "internal:collect") Q E { s with heap := (s.heap.push (seqObj "list" #[] 0)).update s.heap.objs.size (Obj.mapSeq (· ++ vs.toArray)) }
  refine wpAny_bind (wpAny_load (get?_update_seq (Heap.get?_push_size _ rfl) _) ?_)
  show wpAny _ _ (pure ((#[] : Array Value) ++ vs.toArray).toList) Q E _
  rw [show ((#[] : Array Value) ++ vs.toArray).toList = vs by simp]
  exact wpAny_pure h
theorem sorted_tup {l : Addr} {vs : List Value} {ltv : Value → Value → Bool} {Q : Value → Shared → Prop} (O : SrtO.Swo ltv) (hl : IsTup s.heap l vs.toArray) (hz : vs.length ≤ sizeLine)
    (hS : 2 ≤ vs.length → ∀ (h₁ : Heap) (a : Addr), h₁.get? a = some (seqObj "list" vs.toArray 0) → (∀ b o, s.heap.get? b = some o → b ≠ a ∧ h₁.get? b = some o) → SrtO.SortableO prog w A.in1.in1 { s with heap := h₁ } a vs ltv)
    (h : ∀ out : List Value, SrtO.Srtd ltv out → SrtO.Stb ltv out vs → Q (.ref (s.heap.objs.size + 1)) { s with heap := sortedAll s.heap vs out.toArray }) :
    wpAny (model prog w) A (call (.builtin "sorted") [.ref l]) Q E s := by
  refine Calls.call_function_entry kind_sorted plain_sorted entry_sorted (args_sorted1 _) ?_
  unfold Builtin.«sorted»
  refine wpAny_bind (m := checkCount "sorted" 1 1 _) (wpAny_pure ?_)
  refine wpAny_bind (collect_tup hl ?_ hz)
  refine wpAny_bind (wpAny_newList ?_ hz)
  have hsz : ((s.heap.push (seqObj "list" #[] 0)).update s.heap.objs.size (Obj.mapSeq (· ++ vs.toArray))).objs.size = s.heap.objs.size + 1 := by
    rw [Heap.size_update, size_push']
  have hoL : (((s.heap.push (seqObj "list" #[] 0)).update s.heap.objs.size (Obj.mapSeq (· ++ vs.toArray))).push (seqObj "list" vs.toArray 0)).get? (s.heap.objs.size + 1) = some (seqObj "list" vs.toArray 0) := by
    rw [← hsz]; exact Heap.get?_push_size _ rfl
  have keep : ∀ b o, s.heap.get? b = some o → b ≠ s.heap.objs.size + 1 ∧ (((s.heap.push (seqObj "list" #[] 0)).update s.heap.objs.size (Obj.mapSeq (· ++ vs.toArray))).push (seqObj "list" vs.toArray 0)).get? b = some o := fun b o q => by
    have hlt : b < s.heap.objs.size := Heap.lt_size q
    refine ⟨Nat.ne_of_lt (Nat.lt_succ_of_lt hlt), Heap.get?_push_of_some _ ?_⟩
    rw [Heap.get?_update_ne _ _ _ _ (Nat.ne_of_lt hlt)]
    exact Heap.get?_push_of_some _ q
  show wpAny _ _ _ _ _ { s with heap := ((s.heap.push (seqObj "list" #[] 0)).update s.heap.objs.size (Obj.mapSeq (· ++ vs.toArray))).push (seqObj "list" vs.toArray 0) }
  rw [hsz]
  refine wpAny_bind (wpAny_holding (wpAny_call_entry slot_list_sort ⟨_, hoL, rfl⟩ entry_list_sort (SrtO.list_sort_ord O hoL hz (fun h2 => hS h2 _ _ hoL keep) fun out hs hb => ⟨_, rfl, ?_⟩) (args_list_sort _)))
  exact wpAny_pure ⟨_, rfl, h out hs hb⟩
end
/-- sorted(xs), a tuple of ints -/
def rSortedIT (K : PySem.W.Frag) : List V → Hp → VK → Prop := fun vs H Q => ∃ (a : Addr) (ns : List Int), vs = [V.ref a] ∧ SqT K H a (ns.map V.int) ∧
  ∀ (ns' : List Int) (p : Addr), ns'.Perm ns → ns'.Pairwise (· ≤ ·) → H p = none → Q (.ref p) (upd H p (.lst (ns'.map V.int)))
def rSortedA (K : PySem.W.Frag) : List V → Hp → VK → Prop := fun vs H Q => rSortedI K vs H Q ∨ rSortedIT K vs H Q
section
variable {X : Cx}
theorem cr_sortedIT : CallR X (.builtin "sorted") (rSortedIT X.K) := by
  intro pins s σ H vs us Q I r h
  obtain ⟨a, ns, rfl, hs, q⟩ := h
  obtain ⟨its, rv, hl, hz⟩ := I.tuple hs
  rw [Vals.ref1 r]
  have hi := rv.ints
  refine sorted_tup SrtO.swo_int hl (by rw [← rv.length]; exact hz) (fun h2 h₁ a' _ _ => SrtO.ints_sortable hi h2) fun out h1 h2 => ?_
  obtain ⟨k1, k2, k3⟩ := SrtO.ints_out hi h1 h2
  obtain ⟨ep, he'⟩ := PyProof.Rows.sortedAll_at s.heap its out.toArray
  have hlen : ((out.map SrtO.iv).map V.int).length ≤ sizeLine := by
    rw [List.length_map, k2.length_eq]
    rw [List.length_map] at hz
    exact hz
  exact ⟨.ref _, upd H (s.heap.objs.size + 1) (.lst ((out.map SrtO.iv).map V.int)), I.laid (t' := s.toks) (fun _ _ => PyProof.Rows.sortedAll_old) (Nat.le_succ _) ⟨hlen, out, ep, vals_of_ints k1, he'⟩, rfl, q _ _ k2 k3 (I.hok.fresh (Nat.le_succ _))⟩
theorem cr_sortedA : CallR X (.builtin "sorted") (rSortedA X.K) := by
  intro pins s σ H vs us Q I r h
  rcases h with h | h
  · exact cr_sortedI pins s σ H vs us Q I r h
  · exact cr_sortedIT pins s σ H vs us Q I r h
end
end DL
end
section
/-! D6: arguments; calls of built-ins and of one's own defs. -/
namespace DL
open PySem PySem.Spec L2

/-! ### arguments -/
def prm (ρ : Env) : RV → Option RV
  | .fz d => some (.fz d)
  | .fr (.lst ds) => some (.fz (.lst ds))
  | .fr _ => none
  | .sl i => match ρ[i]? with
    | some (some (.fz d)) => some (.fz d)
    | some (some (.ow _ _)) => some (.sl i)
    | some (some (.lk _)) => some (.sl i)
    | _ => none
theorem prm_ok {B : Bas} {F F0 H H0 : Hp} {ρ ρ0 : Env} {σ0 σ : St} {v : V} {r r' : RV} (R : Rel B F ρ σ H) (S : Stp F0 ρ0 σ0 H0 F ρ σ H) (h : RvR B F ρ σ H0 H v r) (e : prm ρ r = some r') :
    ∃ F', Stp F0 ρ0 σ0 H0 F' ρ σ H ∧ Rel B F' ρ σ H ∧ PR B F' ρ σ [v] [r'] ∧ (∀ a o, F a = some o → F' a = some o) := by
  cases r with
  | fz d => cases e; exact ⟨F, S, R, .fz h .nil, fun _ _ h => h⟩
  | fr o =>
    cases o with
    | ob c fs => cases e
    | lst ds =>
      cases e
      obtain ⟨F', S', _, R', r', m⟩ := frz_ok (rv := .fr (.lst ds)) (d := .lst ds) (ρ' := ρ) R S h rfl
      exact ⟨F', S', R', .fz r' .nil, m⟩
  | sl i =>
    obtain ⟨h1, sv, h2⟩ := h
    simp only [prm, h2] at e
    cases sv with
    | fz d =>
      cases e
      obtain ⟨v', h3, h4⟩ := R.sl i _ h2
      rw [h1] at h3; cases h3
      exact ⟨F, S, R, .fz h4 .nil, fun _ _ h => h⟩
    | ow b o => cases e; exact ⟨F, S, R, .sl h1 h2 .nil, fun _ _ h => h⟩
    | lk o => cases e; exact ⟨F, S, R, .sl h1 h2 .nil, fun _ _ h => h⟩
    | xn c fs => cases e
    | dd => cases e
def eP : List ESem → Env → Out (List RV)
  | [], ρ => .ok [] ρ
  | f :: fs, ρ => (f ρ).bind fun r ρ1 => match prm ρ1 r with
    | some r' => (eP fs ρ1).bind fun rs ρ2 => .ok (r' :: rs) ρ2
    | none => .no
theorem PR.app {B : Bas} {F : Hp} {ρ : Env} {σ : St} : ∀ {vs ws : List V} {rs qs : List RV}, PR B F ρ σ vs rs → PR B F ρ σ ws qs → PR B F ρ σ (vs ++ ws) (rs ++ qs)
  | _, _, _, _, .nil, k => k
  | _, _, _, _, .fz h r, k => .fz h (PR.app r k)
  | _, _, _, _, .sl h1 h2 r, k => .sl h1 h2 (PR.app r k)
section
variable {X : Cx} {I : Addr → Value → Option Addr → Prop} {W : WX} {e : Expr} {es : List Expr} {f : ESem} {fs : List ESem}
theorem sa_nil : SA X I W [] (eP []) := ⟨_, pa_nil, fun F ρ σ H R Q h => h F H [] (Stp.refl _ _ _ _) (Live.refl _) R .nil⟩
theorem sa_cons (h : SE X I W e f) (k : SA X I W es (eP fs)) (hs : starEach (e :: es) X.env = (false, eval e X.env) :: starEach es X.env := by rfl) : SA X I W (e :: es) (eP (f :: fs)) := by
  obtain ⟨t, p, m⟩ := h
  obtain ⟨u, q, n⟩ := k
  refine ⟨_, pa_cons p q hs, fun F ρ σ H R Q hq => ?_⟩
  rw [eP, Out.OK_bind] at hq
  refine m F ρ σ H R _ (hq.imp (fun r ρ1 hq F1 H1 v S1 L1 R1 r1 => ?_) fun _ _ _ z => z)
  cases e1 : prm ρ1 r with
  | none => rw [e1] at hq; exact hq.elim
  | some r' =>
    simp only [e1] at hq
    rw [Out.OK_bind] at hq
    obtain ⟨F2, S2, R2, p2, m2⟩ := prm_ok R1 S1 r1 e1
    refine n F2 ρ1 σ H1 R2 _ (hq.imp (fun rs ρ2 hq F3 H3 vs S3 L3 R3 p3 => ?_) fun _ _ _ z => z.back S2)
    exact hq F3 H3 (v :: vs) (S2.trans S3) (L1.trans L3) R3 ((p2.next S3.mono L3).app p3)
end

/-! ### built-ins -/
def CallS1 (B : Bas) (r : List V → Hp → VK → Prop) (g : D → Option RV) : Prop := ∀ F ρ σ H v x rv, Rel B F ρ σ H → RdR B F H v x → g x = some rv → ∀ Q : VK,
  (∀ F' H' w, Stp F ρ σ H F' ρ σ H' → Rel B F' ρ σ H' → RvR B F' ρ σ H H' w rv → Q w H') → r [v] H Q
def eU (g : D → Option RV) (f : ESem) : ESem := fun ρ => (f ρ).bind fun r ρ1 => match rd ρ1 r with
  | some d => (match g d with | some r' => .ok r' ρ1 | none => .no)
  | none => .no
theorem sem_u {B : Bas} {W : WX} {r : List V → Hp → VK → Prop} {g : D → Option RV} {t : TE} {f : ESem} (hg : CallS1 B r g) (m : SemG B W t f (PostE B)) : SemG B W (fun σ H Q => t σ H fun x H1 => r [x] H1 Q) (eU g f) (PostE B) := by
  intro F ρ σ H R Q hq
  rw [eU, Out.OK_bind] at hq
  refine m F ρ σ H R _ (hq.imp (fun r ρ1 hq F1 H1 v S1 L1 R1 r1 => ?_) fun _ _ _ z => z)
  cases e : rd ρ1 r with
  | none => rw [e] at hq; exact hq.elim
  | some d =>
    simp only [e] at hq
    cases e2 : g d with
    | none => rw [e2] at hq; exact hq.elim
    | some r' =>
      rw [e2] at hq
      exact hg F1 ρ1 σ H1 v d r' R1 (rd_ok R1 r1 e) e2 Q fun F' H' w S' R' q' => hq F' H' w (S1.trans S') L1 R' (q'.base fun a z => S1.dom a z)
theorem CallS1.or {B : Bas} {r r' : List V → Hp → VK → Prop} {g g' : D → Option RV} (h : CallS1 B r g) (h' : CallS1 B r' g') : CallS1 B (fun xs H Q => r xs H Q ∨ r' xs H Q) (fun x => match g x with | some y => some y | none => g' x) := by
  intro F ρ σ H v x rv R hv e Q q
  cases z : g x with
  | some y => simp only [z] at e; cases e; exact .inl (h F ρ σ H v x _ R hv z Q q)
  | none => simp only [z] at e; exact .inr (h' F ρ σ H v x _ R hv e Q q)
section
variable {X : Cx} {I : Addr → Value → Option Addr → Prop} {W : WX} {a : Expr} {f : ESem} {r : List V → Hp → VK → Prop} {g : D → Option RV} {x : Str} {p pos : Pos} {id T : String}
theorem se_callB1 (hc : CallR X (.builtin id) r) (hr : CallS1 (bas X I) r g) (hg : Gl X x) (hm : X.mg x = none) (hv : bootBuiltins x = some (.builtin id)) (h : SE X I W a f) (hn : x ≠ "__name__" := by decide) (hdb : (x == ("__debug__" : Str)) = false := by decide)
    (he : starEach [a] X.env = (false, eval a X.env) :: starEach [] X.env := by rfl) (hpl : (backTo pos (starEach [] X.env)).any (·.1) = false := by rfl) : SE X I W (.Call (.Name x p) [a] [] pos) (eU g f) := by
  obtain ⟨t, q, m⟩ := h
  exact ⟨_, pe_callB hc hg hm hv (pa_cons q pa_nil he) hn hdb he hpl, sem_u hr m⟩
theorem se_callT1 (hc : CallR X (.type T) r) (hr : CallS1 (bas X I) r g) (hg : Gl X x) (hm : X.mg x = none) (hv : bootBuiltins x = some (.type T)) (h : SE X I W a f) (hn : x ≠ "__name__" := by decide) (hdb : (x == ("__debug__" : Str)) = false := by decide)
    (he : starEach [a] X.env = (false, eval a X.env) :: starEach [] X.env := by rfl) (hpl : (backTo pos (starEach [] X.env)).any (·.1) = false := by rfl) : SE X I W (.Call (.Name x p) [a] [] pos) (eU g f) := by
  obtain ⟨t, q, m⟩ := h
  exact ⟨_, pe_callTy hc hg hm hv (pa_cons q pa_nil he) hn hdb he hpl, sem_u hr m⟩
end
section
variable {B : Bas}
def lenD : D → Option RV
  | .str y => if y.length ≤ sizeLine then some (.fz (.int (y.length : Int))) else none
  | .tup xs => some (.fz (.int (xs.length : Int)))
  | .lst xs => some (.fz (.int (xs.length : Int)))
  | .scr ns => some (.fz (.int (ns.length : Int)))
  | _ => none
theorem call_lenD : CallS1 B (fun xs H Q => ∃ x n, xs = [x] ∧ LenV B.K x H n ∧ Q (.int n) H) lenD := by
  intro F ρ σ H v x rv R hv e Q q
  cases x <;> simp only [lenD] at e <;> try cases e
  · split at e
    · rename_i z; cases e; exact ⟨v, _, rfl, by rw [hv.str]; exact ⟨z, rfl⟩, ret1 R q (.int _)⟩
    · cases e
  · obtain ⟨a, vs, rfl, h1, l⟩ := hv.tup; exact ⟨_, _, rfl, .inr ⟨vs, sqt_mono R.ext h1, l.length.symm⟩, ret1 R q (.int _)⟩
  · obtain ⟨a, vs, rfl, h1, l⟩ := hv.lst R.ext; exact ⟨_, _, rfl, .inl ⟨vs, SqL.of h1, l.length.symm⟩, ret1 R q (.int _)⟩
  · rename_i ns
    obtain ⟨a, rfl, h1⟩ := hv.scr
    exact ⟨_, ns.length, rfl, .inl ⟨_, sql_mono R.ext h1, by rw [List.length_map]⟩, ret1 R q (.int _)⟩
def intD : D → Option RV
  | .int i => some (.fz (.int i))
  | .bl k => some (.fz (.int (if k then 1 else 0)))
  | _ => none
theorem call_intD : CallS1 B (fun xs H Q => (∃ i, xs = [.int i] ∧ Q (.int i) H) ∨ ∃ k, xs = [.bl k] ∧ Q (.int (if k then 1 else 0)) H) intD := by
  intro F ρ σ H v x rv R hv e Q q
  cases x <;> simp only [intD] at e <;> cases e
  · exact .inr ⟨_, by rw [hv.bl], ret1 R q (.int _)⟩
  · exact .inl ⟨_, by rw [hv.int], ret1 R q (.int _)⟩
def listD : D → Option RV
  | .lst xs => some (.fr (.lst xs))
  | .tup xs => some (.fr (.lst xs))
  | _ => none
theorem call_listD : CallS1 B (fun xs H Q => ∃ p ys, xs = [.ref p] ∧ (SqL B.K H p ys ∨ SqT B.K H p ys) ∧ ∀ l, H l = none → Q (.ref l) (upd H l (.lst ys))) listD := by
  intro F ρ σ H v x rv R hv e Q q
  cases x <;> simp only [listD] at e <;> cases e
  · obtain ⟨a, vs, rfl, h1, l⟩ := hv.tup
    refine ⟨a, vs, rfl, .inr (sqt_mono R.ext h1), fun p hn => ?_⟩
    obtain ⟨S', R', r'⟩ := newList R (Stp.refl _ _ _ _) hn l
    exact q _ _ _ S' R' r'
  · obtain ⟨a, vs, rfl, h1, l⟩ := hv.lst R.ext
    refine ⟨a, vs, rfl, .inl (SqL.of h1), fun p hn => ?_⟩
    obtain ⟨S', R', r'⟩ := newList R (Stp.refl _ _ _ _) hn l
    exact q _ _ _ S' R' r'
def tupD : D → Option RV
  | .lst xs => some (.fz (.tup xs))
  | .tup xs => some (.fz (.tup xs))
  | _ => none
theorem call_tupD : CallS1 B (fun xs H Q => ∃ p ys, xs = [.ref p] ∧ ((SqL B.K H p ys ∧ ∀ l, H l = none → Q (.ref l) (upd H l (.tup ys))) ∨ (SqT B.K H p ys ∧ Q (.ref p) H))) tupD := by
  intro F ρ σ H v x rv R hv e Q q
  cases x <;> simp only [tupD] at e <;> cases e
  · obtain ⟨a, vs, rfl, h1, l⟩ := hv.tup
    exact ⟨a, vs, rfl, .inr ⟨sqt_mono R.ext h1, ret1 R q (.tup h1 l)⟩⟩
  · obtain ⟨a, vs, rfl, h1, l⟩ := hv.lst R.ext
    refine ⟨a, vs, rfl, .inl ⟨SqL.of h1, fun p hn => ?_⟩⟩
    obtain ⟨S', R', r'⟩ := newTup R (Stp.refl _ _ _ _) hn l
    exact q _ _ _ S' R' r'
/-! ### sorted, of ints -/
def ints? : List D → Option (List Int)
  | [] => some []
  | .int i :: r => (ints? r).map (i :: ·)
  | _ :: _ => none
theorem ints?_eq : ∀ {ds : List D} {ns : List Int}, ints? ds = some ns → ds = ns.map D.int
  | [], _, e => by simp only [ints?] at e; cases e; rfl
  | .int i :: r, ns, e => by
    simp only [ints?] at e
    cases q : ints? r with
    | none => rw [q] at e; cases e
    | some ms => rw [q] at e; cases e; rw [List.map_cons, ← ints?_eq q]
  | .non :: _, _, e => by simp only [ints?] at e; cases e
  | .bl _ :: _, _, e => by simp only [ints?] at e; cases e
  | .str _ :: _, _, e => by simp only [ints?] at e; cases e
  | .tup _ :: _, _, e => by simp only [ints?] at e; cases e
  | .lst _ :: _, _, e => by simp only [ints?] at e; cases e
  | .scr _ :: _, _, e => by simp only [ints?] at e; cases e
  | .ins _ _ :: _, _, e => by simp only [ints?] at e; cases e
theorem ints?_map : ∀ ns : List Int, ints? (ns.map D.int) = some ns
  | [] => rfl
  | n :: r => by simp only [List.map_cons, ints?, ints?_map r, Option.map_some]
def sortI (ns : List Int) : List Int := ns.mergeSort fun a b => decide (a ≤ b)
theorem sortI_perm (ns : List Int) : (sortI ns).Perm ns := List.mergeSort_perm _ _
theorem sortI_sorted (ns : List Int) : (sortI ns).Pairwise (· ≤ ·) := by
  have h := List.pairwise_mergeSort (le := fun a b : Int => decide (a ≤ b)) (by intro a b c h1 h2; simp only [decide_eq_true_eq] at *; omega) (by intro a b; simp only [Bool.or_eq_true, decide_eq_true_eq]; omega) ns
  exact h.imp (by intro a b h; simpa using h)
theorem sorted_one {ns ms : List Int} (hp : ns.Perm ms) (h1 : ns.Pairwise (· ≤ ·)) (h2 : ms.Pairwise (· ≤ ·)) : ns = ms := hp.eq_of_pairwise (by intro a b _ _ h k; omega) h1 h2
def srtD : D → Option RV
  | .lst ds => (ints? ds).map fun ns => .fr (.lst ((sortI ns).map D.int))
  | .tup ds => (ints? ds).map fun ns => .fr (.lst ((sortI ns).map D.int))
  | _ => none
theorem call_srtD : CallS1 B (rSortedA B.K) srtD := by
  intro F ρ σ H v x rv R hv e Q q
  cases x <;> simp only [srtD] at e <;> try cases e
  · rename_i ds
    cases z : ints? ds with
    | none => rw [z] at e; cases e
    | some ns =>
      rw [z] at e; cases e
      obtain ⟨a, vs, rfl, h1, l⟩ := hv.tup
      rw [ints?_eq z] at l
      rw [l.inv_ints] at h1
      refine .inr ⟨a, ns, rfl, sqt_mono R.ext h1, fun ns' p hp hs hn => ?_⟩
      have e' : ns' = sortI ns := sorted_one (hp.trans (sortI_perm ns).symm) hs (sortI_sorted ns)
      subst e'
      obtain ⟨S', R', r'⟩ := newList R (Stp.refl _ _ _ _) hn (RepL.ints (sortI ns))
      exact q _ _ _ S' R' r'
  · rename_i ds
    cases z : ints? ds with
    | none => rw [z] at e; cases e
    | some ns =>
      rw [z] at e; cases e
      obtain ⟨a, vs, rfl, h1, l⟩ := hv.lst R.ext
      rw [ints?_eq z] at l
      rw [l.inv_ints] at h1
      refine .inl ⟨a, ns, rfl, SqL.of h1, fun ns' p hp hs hn => ?_⟩
      have e' : ns' = sortI ns := sorted_one (hp.trans (sortI_perm ns).symm) hs (sortI_sorted ns)
      subst e'
      obtain ⟨S', R', r'⟩ := newList R (Stp.refl _ _ _ _) hn (RepL.ints (sortI ns))
      exact q _ _ _ S' R' r'
end
end DL
end
section
/-! D7: the promise of a def over plain data; its call. -/
namespace DL
open PySem PySem.Spec L2

/-- no exception is held -/
abbrev I0 : Addr → Value → Option Addr → Prop := fun _ _ _ => False
/-- a def over data: its arguments (what is its caller's own stands as ow true), what it gives and what its slots hold behind it -/
abbrev FSem := List SV → Out RV
def argOk : SV → Bool
  | .fz _ => true
  | .ow b _ => b
  | .lk _ => true
  | _ => false
def envOf (as : List SV) : Env := as.map some
structure FinR (B : Bas) (F : Hp) (as : List SV) (vs : List V) (H : Hp) (F' : Hp) (ρa : Env) (H' : Hp) : Prop where
  mono : ∀ a o, F a = some o → F' a = some o
  newF : ∀ a, F' a ≠ none → F a ≠ none ∨ H a = none ∨ ∃ k, OwnAt (envOf as) (vs.map some) k a
  keep : ∀ a o, H a = some o → (∀ k, ¬ OwnAt (envOf as) (vs.map some) k a) → H' a = some o
  dom : ∀ a, H' a = none → H a = none
  ext : ∀ a o, F' a = some o → H' a = some o
  arg : ∀ (k : Nat) (o : OB), ρa[k]? = some (some (.ow true o)) → ∃ a, vs[k]? = some (.ref a) ∧ F' a = none ∧ RepO B F' H' a o
def RetF (B : Bas) (F' H H' : Hp) (v : V) : RV → Prop
  | .fz d => Rep B F' v d
  | .fr o => ∃ a, v = .ref a ∧ H a = none ∧ F' a = none ∧ RepO B F' H' a o
  | .sl _ => False
/-- the promise -/
def spOf (B : Bas) (n : Nat) (m : FSem) : Sp := fun vs H Q E => ∃ F as, as.length = n ∧ as.all argOk = true ∧ Rel B F (envOf as) (vs.map some) H ∧
  (m as).OK (fun r ρa => ∀ F' H' v, FinR B F as vs H F' ρa H' → RetF B F' H H' v r → Q v H')
    (fun c fs ρa => ∀ F' H' cls dd, FinR B F as vs H F' ρa H' → XR B F' cls dd c fs → E cls dd H')
theorem spOf_len {B : Bas} {n : Nat} {m : FSem} : ∀ vs H Q E, spOf B n m vs H Q E → vs.length = n := fun vs H Q E ⟨F, as, h1, _, R, _⟩ => by
  have h := R.len
  unfold envOf at h
  rw [List.length_map, List.length_map] at h
  omega

/-! ### what goes in -/
def argSV (ρ : Env) : RV → Option SV
  | .fz d => some (.fz d)
  | .fr _ => none
  | .sl i => match ρ[i]? with
    | some (some (.ow _ o)) => some (.ow true o)
    | some (some (.lk o)) => some (.lk o)
    | some (some (.fz d)) => some (.fz d)
    | _ => none
def argsOf (ρ : Env) : List RV → Option (List SV)
  | [] => some []
  | r :: rs => match argSV ρ r, argsOf ρ rs with
    | some a, some as => some (a :: as)
    | _, _ => none
def slotsOf : List RV → List Nat
  | [] => []
  | .sl i :: rs => i :: slotsOf rs
  | _ :: rs => slotsOf rs
def outSV (sv : Option (Option SV)) (b : Bool) : SV := match sv with
  | some (some (.ow true o)) => .ow b o
  | _ => .dd
def back1 (ρ : Env) (r : RV) (s : Option (Option SV)) : Env := match r with
  | .sl i => (match ρ[i]? with
    | some (some (.ow b _)) => ρ.set i (some (outSV s b))
    | _ => ρ)
  | _ => ρ
def back : Env → List RV → Env → Env
  | ρ, [], _ => ρ
  | ρ, r :: rs, ρa => back (back1 ρ r ρa.head?) rs ρa.tail
theorem mem_slots {k : Nat} : ∀ {rs : List RV}, RV.sl k ∈ rs → k ∈ slotsOf rs
  | r :: rs, h => by
    rcases List.mem_cons.mp h with e | h
    · subst e; simp [slotsOf]
    · have := mem_slots h
      cases r <;> simp [slotsOf, this]
theorem back_len : ∀ (rs : List RV) (ρ ρa : Env), (back ρ rs ρa).length = ρ.length
  | [], _, _ => rfl
  | r :: rs, ρ, ρa => by
    rw [back, back_len rs]
    unfold back1
    cases r with
    | sl i =>
      dsimp only
      cases e : ρ[i]? with
      | none => rfl
      | some o =>
        cases o with
        | none => rfl
        | some sv => cases sv <;> simp
    | _ => rfl
/-- a slot behind the call -/
def BackAt (ρ : Env) (rs : List RV) (ρa : Env) (k : Nat) (sv : SV) : Prop :=
  (ρ[k]? = some (some sv) ∧ ∀ b o, sv = .ow b o → RV.sl k ∉ rs) ∨
  ∃ (j : Nat) (b : Bool) (o0 : OB), rs[j]? = some (.sl k) ∧ ρ[k]? = some (some (.ow b o0)) ∧ (sv = .dd ∨ ∃ o', ρa[j]? = some (some (.ow true o')) ∧ sv = .ow b o')
theorem back_at : ∀ (rs : List RV) (ρ ρa : Env), (slotsOf rs).Nodup → ∀ (k : Nat) (sv : SV), (back ρ rs ρa)[k]? = some (some sv) → BackAt ρ rs ρa k sv
  | [], ρ, ρa, _, k, sv, h => .inl ⟨h, fun _ _ _ => by simp⟩
  | .fz d :: rs, ρ, ρa, nd, k, sv, h => by
    rw [back] at h
    rcases back_at rs ρ ρa.tail nd k sv h with ⟨h1, h2⟩ | ⟨j, b, o0, h1, h2, h3⟩
    · exact .inl ⟨h1, fun b o e hm => by rcases List.mem_cons.mp hm with q | q; cases q; exact h2 b o e q⟩
    · exact .inr ⟨j + 1, b, o0, h1, h2, h3.imp_right fun ⟨o', q1, q2⟩ => ⟨o', by rw [List.getElem?_tail] at q1; exact q1, q2⟩⟩
  | .fr o :: rs, ρ, ρa, nd, k, sv, h => by
    rw [back] at h
    rcases back_at rs ρ ρa.tail nd k sv h with ⟨h1, h2⟩ | ⟨j, b, o0, h1, h2, h3⟩
    · exact .inl ⟨h1, fun b o e hm => by rcases List.mem_cons.mp hm with q | q; cases q; exact h2 b o e q⟩
    · exact .inr ⟨j + 1, b, o0, h1, h2, h3.imp_right fun ⟨o', q1, q2⟩ => ⟨o', by rw [List.getElem?_tail] at q1; exact q1, q2⟩⟩
  | .sl i :: rs, ρ, ρa, nd, k, sv, h => by
    obtain ⟨ni, nd'⟩ := List.nodup_cons.mp nd
    rw [back] at h
    unfold back1 at h
    dsimp only at h
    have plain : ∀ {ρ' : Env}, (∀ b o, ρ[i]? ≠ some (some (.ow b o))) → (back ρ rs ρa.tail)[k]? = some (some sv) → BackAt ρ (.sl i :: rs) ρa k sv := fun hn h => by
      rcases back_at rs ρ ρa.tail nd' k sv h with ⟨h1, h2⟩ | ⟨j, b, o0, h1, h2, h3⟩
      · refine .inl ⟨h1, fun b o e hm => ?_⟩
        rcases List.mem_cons.mp hm with q | q
        · cases q; subst e; exact hn b o h1
        · exact h2 b o e q
      · exact .inr ⟨j + 1, b, o0, h1, h2, h3.imp_right fun ⟨o', q1, q2⟩ => ⟨o', by rw [List.getElem?_tail] at q1; exact q1, q2⟩⟩
    cases e : ρ[i]? with
    | none => rw [e] at h; exact plain (ρ' := ρ) (fun _ _ z => by rw [e] at z; cases z) h
    | some u =>
      cases u with
      | none => rw [e] at h; exact plain (ρ' := ρ) (fun _ _ z => by rw [e] at z; cases z) h
      | some w =>
        cases w with
        | ow b o =>
          rw [e] at h
          dsimp only at h
          rcases back_at rs _ ρa.tail nd' k sv h with ⟨h1, h2⟩ | ⟨j, b', o0, h1, h2, h3⟩
          · rcases get_set h1 with ⟨z, q⟩ | ⟨z, q⟩
            · subst z
              injection q with q
              refine .inr ⟨0, b, o, rfl, e, ?_⟩
              subst q
              unfold outSV
              rw [List.head?_eq_getElem?]
              split
              · rename_i o' q; exact .inr ⟨o', q, rfl⟩
              · exact .inl rfl
            · refine .inl ⟨q, fun b' o' e' hm => ?_⟩
              rcases List.mem_cons.mp hm with w | w
              · cases w; exact z rfl
              · exact h2 b' o' e' w
          · have nk : i ≠ k := fun z => ni (by rw [z]; exact mem_slots (List.mem_of_getElem? h1))
            rcases get_set h2 with ⟨z, _⟩ | ⟨_, q⟩
            · exact absurd z nk
            · exact .inr ⟨j + 1, b', o0, h1, q, h3.imp_right fun ⟨o', q1, q2⟩ => ⟨o', by rw [List.getElem?_tail] at q1; exact q1, q2⟩⟩
        | _ => rw [e] at h; exact plain (ρ' := ρ) (fun _ _ z => by rw [e] at z; cases z) h
theorem back_live {ρ ρa : Env} {rs : List RV} : Live ρ (back ρ rs ρa) := by
  induction rs generalizing ρ ρa with
  | nil => exact Live.refl _
  | cons r rs ih =>
    rw [back]
    refine Live.trans ?_ ih
    unfold back1
    cases r with
    | sl i =>
      dsimp only
      cases e : ρ[i]? with
      | none => exact Live.refl _
      | some o =>
        cases o with
        | none => exact Live.refl _
        | some sv =>
          cases sv with
          | ow b o => exact live_set
          | _ => exact Live.refl _
    | _ => exact Live.refl _
/-- the arguments, one by one -/
theorem args_at {B : Bas} {F : Hp} {ρ : Env} {σ : St} : ∀ {rs : List RV} {vs : List V} {as : List SV}, PR B F ρ σ vs rs → argsOf ρ rs = some as → as.length = rs.length ∧ vs.length = rs.length ∧ ∀ (k : Nat) (sv : SV), as[k]? = some sv → ∃ v, vs[k]? = some v ∧
    ((∃ d, rs[k]? = some (.fz d) ∧ sv = .fz d ∧ Rep B F v d) ∨ ∃ i sv0, rs[k]? = some (.sl i) ∧ ρ[i]? = some (some sv0) ∧ σ[i]? = some (some v) ∧ ((∃ b o, sv0 = .ow b o ∧ sv = .ow true o) ∨ (∃ o, sv0 = .lk o ∧ sv = .lk o) ∨ ∃ d, sv0 = .fz d ∧ sv = .fz d))
  | [], _, _, .nil, e => by cases e; exact ⟨rfl, rfl, fun k sv h => by simp at h⟩
  | .fz d :: rs, _, as, .fz h p, e => by
    simp only [argsOf, argSV] at e
    cases q : argsOf ρ rs with
    | none => rw [q] at e; cases e
    | some as' =>
      rw [q] at e; cases e
      obtain ⟨h1, h2, h3⟩ := args_at p q
      refine ⟨by simp [h1], by simp [h2], fun k sv hk => ?_⟩
      cases k with
      | zero => simp at hk; subst hk; exact ⟨_, rfl, .inl ⟨d, rfl, rfl, h⟩⟩
      | succ k => simpa using h3 k sv (by simpa using hk)
  | .sl i :: rs, _, as, .sl (sv := s0) g1 g2 p, e => by
    simp only [argsOf] at e
    cases q0 : argSV ρ (.sl i) with
    | none => rw [q0] at e; cases e
    | some a0 =>
      cases q : argsOf ρ rs with
      | none => rw [q0, q] at e; cases e
      | some as' =>
        rw [q0, q] at e; cases e
        obtain ⟨h1, h2, h3⟩ := args_at p q
        refine ⟨by simp [h1], by simp [h2], fun k sv hk => ?_⟩
        cases k with
        | zero =>
          simp at hk; subst hk
          refine ⟨_, rfl, .inr ⟨i, s0, rfl, g2, g1, ?_⟩⟩
          simp only [argSV, g2] at q0
          cases s0 with
          | ow b o => cases q0; exact .inl ⟨b, o, rfl, rfl⟩
          | lk o => cases q0; exact .inr (.inl ⟨o, rfl, rfl⟩)
          | fz d => cases q0; exact .inr (.inr ⟨d, rfl, rfl⟩)
          | xn c fs => cases q0
          | dd => cases q0
        | succ k => simpa using h3 k sv (by simpa using hk)
theorem slots_inj : ∀ {rs : List RV} {j k i : Nat}, (slotsOf rs).Nodup → rs[j]? = some (.sl i) → rs[k]? = some (.sl i) → j = k
  | [], _, _, _, _, h, _ => by simp at h
  | r :: rs, 0, 0, _, _, _, _ => rfl
  | .sl i' :: rs, 0, k + 1, i, nd, h1, h2 => by
    simp at h1 h2; subst h1
    exact absurd (mem_slots (List.mem_of_getElem? h2)) (List.nodup_cons.mp nd).1
  | .sl i' :: rs, j + 1, 0, i, nd, h1, h2 => by
    simp at h1 h2; subst h2
    exact absurd (mem_slots (List.mem_of_getElem? h1)) (List.nodup_cons.mp nd).1
  | .sl i' :: rs, j + 1, k + 1, i, nd, h1, h2 => congrArg (· + 1) (slots_inj (List.nodup_cons.mp nd).2 (by simpa using h1) (by simpa using h2))
  | .fz d :: rs, 0, k + 1, i, nd, h1, h2 => by simp at h1
  | .fz d :: rs, j + 1, 0, i, nd, h1, h2 => by simp at h2
  | .fz d :: rs, j + 1, k + 1, i, nd, h1, h2 => congrArg (· + 1) (slots_inj (rs := rs) nd (by simpa using h1) (by simpa using h2))
  | .fr d :: rs, 0, k + 1, i, nd, h1, h2 => by simp at h1
  | .fr d :: rs, j + 1, 0, i, nd, h1, h2 => by simp at h2
  | .fr d :: rs, j + 1, k + 1, i, nd, h1, h2 => congrArg (· + 1) (slots_inj (rs := rs) nd (by simpa using h1) (by simpa using h2))
theorem argsOf_ok : ∀ {rs : List RV} {ρ : Env} {as : List SV}, argsOf ρ rs = some as → as.all argOk = true
  | [], _, _, e => by cases e; rfl
  | r :: rs, ρ, as, e => by
    simp only [argsOf] at e
    cases q0 : argSV ρ r with
    | none => rw [q0] at e; cases e
    | some a0 =>
      cases q : argsOf ρ rs with
      | none => rw [q0, q] at e; cases e
      | some as' =>
        rw [q0, q] at e; cases e
        rw [List.all_cons, argsOf_ok q, Bool.and_true]
        cases r with
        | fz d => cases q0; rfl
        | fr o => cases q0
        | sl i =>
          simp only [argSV] at q0
          split at q0 <;> cases q0 <;> rfl
section
variable {B : Bas} {F0 H0 F H F' H' : Hp} {ρ0 ρ ρa : Env} {σ0 σ : St} {rs : List RV} {vs : List V} {as : List SV}
theorem args_own (R : Rel B F ρ σ H) (p : PR B F ρ σ vs rs) (e : argsOf ρ rs = some as) {k : Nat} {a : Addr} (h : OwnAt (envOf as) (vs.map some) k a) : ∃ i, rs[k]? = some (.sl i) ∧ OwnAt ρ σ i a := by
  obtain ⟨b, o, h1, h2⟩ := h
  unfold envOf at h1
  rw [List.getElem?_map] at h1 h2
  cases q : as[k]? with
  | none => rw [q] at h1; cases h1
  | some sv =>
    rw [q] at h1
    injection h1 with h1; injection h1 with h1; subst h1
    obtain ⟨_, _, h3⟩ := args_at p e
    obtain ⟨v, hv, h4⟩ := h3 k _ q
    rw [hv] at h2
    injection h2 with h2; injection h2 with h2; subst h2
    rcases h4 with ⟨d, _, z, _⟩ | ⟨i, sv0, g1, g2, g3, ⟨b', o', z1, z2⟩ | ⟨o', z1, z2⟩ | ⟨d, z1, z2⟩⟩
    · cases z
    · cases z2; subst z1; exact ⟨i, g1, b', o, g2, g3⟩
    · cases z2
    · cases z2
theorem args_has (R : Rel B F ρ σ H) (p : PR B F ρ σ vs rs) (e : argsOf ρ rs = some as) {k : Nat} {a : Addr} (h : HasAt (envOf as) (vs.map some) k a) : ∃ i, rs[k]? = some (.sl i) ∧ HasAt ρ σ i a := by
  obtain ⟨sv, h1, ho, h2⟩ := h
  unfold envOf at h1
  rw [List.getElem?_map] at h1 h2
  cases q : as[k]? with
  | none => rw [q] at h1; cases h1
  | some sv' =>
    rw [q] at h1
    injection h1 with h1; injection h1 with h1; subst h1
    obtain ⟨_, _, h3⟩ := args_at p e
    obtain ⟨v, hv, h4⟩ := h3 k _ q
    rw [hv] at h2
    injection h2 with h2; injection h2 with h2; subst h2
    rcases h4 with ⟨d, _, z, _⟩ | ⟨i, sv0, g1, g2, g3, ⟨b', o', z1, z2⟩ | ⟨o', z1, z2⟩ | ⟨d, z1, z2⟩⟩
    · subst z; cases ho
    · subst z1; exact ⟨i, g1, _, g2, rfl, g3⟩
    · subst z1; exact ⟨i, g1, _, g2, rfl, g3⟩
    · subst z2; cases ho
/-- what the callee finds -/
theorem args_rel (R : Rel B F ρ σ H) (p : PR B F ρ σ vs rs) (nd : (slotsOf rs).Nodup) (e : argsOf ρ rs = some as) : Rel B F (envOf as) (vs.map some) H := by
  obtain ⟨l1, l2, h3⟩ := args_at p e
  refine ⟨R.ext, by unfold envOf; rw [List.length_map, List.length_map]; omega, fun k sv h => ?_, fun j k a h1 h2 => ?_⟩
  · unfold envOf at h
    rw [List.getElem?_map] at h
    cases q : as[k]? with
    | none => rw [q] at h; cases h
    | some sv' =>
      rw [q] at h
      injection h with h; injection h with h; subst h
      obtain ⟨v, hv, h4⟩ := h3 k _ q
      refine ⟨v, by rw [List.getElem?_map, hv]; rfl, ?_⟩
      rcases h4 with ⟨d, _, z, r⟩ | ⟨i, sv0, g1, g2, g3, h5⟩
      · subst z; exact r
      · obtain ⟨v', w1, w2⟩ := R.sl i sv0 g2
        rw [g3] at w1; cases w1
        rcases h5 with ⟨b', o', z1, z2⟩ | ⟨o', z1, z2⟩ | ⟨d, z1, z2⟩
        · subst z1 z2; exact w2
        · subst z1 z2; exact w2
        · subst z1 z2; exact w2
  · obtain ⟨i, g1, g2⟩ := args_own R p e h1
    obtain ⟨i', k1, k2⟩ := args_has R p e h2
    have z := R.sep i i' a g2 k2
    subst z
    exact slots_inj nd g1 k1
/-- what the caller finds behind the call -/
theorem call_back (S : Stp F0 ρ0 σ0 H0 F ρ σ H) (R : Rel B F ρ σ H) (p : PR B F ρ σ vs rs) (nd : (slotsOf rs).Nodup) (e : argsOf ρ rs = some as) (f : FinR B F as vs H F' ρa H') :
    Stp F0 ρ0 σ0 H0 F' (back ρ rs ρa) σ H' ∧ Rel B F' (back ρ rs ρa) σ H' := by
  have hb := back_at rs ρ ρa nd
  have own : ∀ k a, OwnAt (envOf as) (vs.map some) k a → ∃ i, rs[k]? = some (.sl i) ∧ OwnAt ρ σ i a := fun k a h => args_own R p e h
  have has' : ∀ k a, HasAt (back ρ rs ρa) σ k a → HasAt ρ σ k a := fun k a ⟨sv, h1, h2, h3⟩ => by
    rcases hb k sv h1 with ⟨q, _⟩ | ⟨j, b, o0, q1, q2, q3⟩
    · exact ⟨sv, q, h2, h3⟩
    · exact ⟨_, q2, rfl, h3⟩
  have own' : ∀ (k : Nat) (b : Bool) (o : OB), (back ρ rs ρa)[k]? = some (some (.ow b o)) → ∃ o1, ρ[k]? = some (some (.ow b o1)) := fun k b o h => by
    rcases hb k _ h with ⟨q, _⟩ | ⟨j, b', o0, q1, q2, q3 | ⟨o', q3, q4⟩⟩
    · exact ⟨o, q⟩
    · cases q3
    · cases q4; exact ⟨o0, q2⟩
  -- an object of a slot that was not handed in stands as it was
  have stay : ∀ k a, HasAt ρ σ k a → RV.sl k ∉ rs → (∀ o, H a = some o → H' a = some o) ∧ (F a = none → (∃ o, H a = some o) → F' a = none) := fun k a hk hm => by
    have no : ∀ j, ¬ OwnAt (envOf as) (vs.map some) j a := fun j hj => by
      obtain ⟨i, g1, g2⟩ := own j a hj
      have z := R.sep i k a g2 hk
      subst z
      exact hm (List.mem_of_getElem? g1)
    refine ⟨fun o h => f.keep a o h no, fun hf ⟨o, ho⟩ => ?_⟩
    cases q : F' a with
    | none => rfl
    | some z =>
      rcases f.newF a (by rw [q]; exact fun z => nomatch z) with q | q | ⟨j, q⟩
      · exact absurd hf q
      · rw [ho] at q; cases q
      · exact absurd q (no j)
  refine ⟨⟨fun a o h => f.mono a o (S.mono a o h), fun a h => ?_, fun a o h hn => ?_, fun a h => S.dom a (f.dom a h), fun k a h => S.has k a (has' k a h), fun k b o a h1 h2 => ?_, fun k o a h1 h2 => S.lks k o a (by
      rcases hb k _ h1 with ⟨q, _⟩ | ⟨j, b, o0, q1, q2, q3 | ⟨o', q3, q4⟩⟩
      · exact q
      · cases q3
      · cases q4) h2⟩,
    ⟨f.ext, by rw [back_len]; exact R.len, fun k sv h => ?_, fun i j a h1 h2 => ?_⟩⟩
  · rcases f.newF a h with h | h | ⟨k, h⟩
    · exact S.newF a h
    · exact .inr (.inl (S.dom a h))
    · obtain ⟨i, _, g⟩ := own k a h
      rcases S.ownAt g with g | g
      · exact .inr (.inl g)
      · exact .inr (.inr ⟨i, g⟩)
  · refine f.keep a o (S.keep a o h hn) fun k hk => ?_
    obtain ⟨i, _, g⟩ := own k a hk
    rcases S.ownAt g with g | g
    · rw [h] at g; cases g
    · exact hn i g
  · obtain ⟨o1, q⟩ := own' k b o h1
    exact S.own k b o1 a q h2
  · rcases hb k sv h with ⟨q, hm⟩ | ⟨j, b, o0, q1, q2, q3⟩
    · obtain ⟨v, g1, g2⟩ := R.sl k sv q
      refine ⟨v, g1, ?_⟩
      cases sv with
      | fz d => exact Rep.mono f.mono g2
      | ow b o =>
        obtain ⟨a, e1, e2, e3⟩ := g2
        subst e1
        obtain ⟨s1, s2⟩ := stay k a ⟨_, q, rfl, g1⟩ (hm b o rfl)
        exact ⟨a, rfl, s2 e2 e3.some, e3.keep f.mono s1⟩
      | lk o =>
        obtain ⟨a, e1, e2, e3⟩ := g2
        subst e1
        have no : ∀ j, ¬ OwnAt (envOf as) (vs.map some) j a := fun j hj => by
          obtain ⟨i, w1, w2⟩ := own j a hj
          have z := R.sep i k a w2 ⟨_, q, rfl, g1⟩
          subst z
          obtain ⟨b', o', w3, _⟩ := w2
          rw [q] at w3; cases w3
        refine ⟨a, rfl, ?_, e3.keep f.mono fun o h => f.keep a o h no⟩
        cases w : F' a with
        | none => rfl
        | some z =>
          rcases f.newF a (by rw [w]; exact fun z => nomatch z) with w | w | ⟨j, w⟩
          · exact absurd e2 w
          · obtain ⟨o', ho⟩ := e3.some; rw [ho] at w; cases w
          · exact absurd w (no j)
      | xn c fs =>
        obtain ⟨a, C, dd, ws, e1, g, x, q⟩ := g2
        exact ⟨a, C, dd, ws, e1, g, x, q.elim .inl fun ⟨e, h1, h2, h3⟩ => .inr ⟨e, h1, f.mono _ _ h2, h3.mono f.mono⟩⟩
      | dd => trivial
    · obtain ⟨v, g1, g2⟩ := R.sl k _ q2
      refine ⟨v, g1, ?_⟩
      rcases q3 with q3 | ⟨o', q3, q4⟩
      · subst q3; trivial
      · subst q4
        obtain ⟨a, w1, w2, w3⟩ := f.arg j o' q3
        -- the slot's value is the argument
        obtain ⟨l1, l2, h3⟩ := args_at p e
        have hj : j < as.length := by rw [l1]; exact (List.getElem?_eq_some_iff.mp q1).1
        obtain ⟨v', hv, h4⟩ := h3 j as[j] (List.getElem?_eq_getElem hj)
        rw [hv] at w1; cases w1
        rcases h4 with ⟨d, z, _⟩ | ⟨i, sv0, z1, z2, z3, _⟩
        · rw [q1] at z; cases z
        · rw [q1] at z1; cases z1
          rw [g1] at z3; cases z3
          exact ⟨a, rfl, w2, w3⟩
  · obtain ⟨b, o, w1, w2⟩ := h1
    obtain ⟨o1, q⟩ := own' i b o w1
    exact R.sep i j a ⟨b, o1, q, w2⟩ (has' j a h2)
end

/-! ### the call -/
def eCallF (m : FSem) (fs : List ESem) : ESem := fun ρ => (eP fs ρ).bind fun rs ρ1 => match argsOf ρ1 rs with
  | some as => if (slotsOf rs).Nodup then (match m as with
    | .ok r ρa => .ok r (back ρ1 rs ρa)
    | .ex c fs ρa => .ex c fs (back ρ1 rs ρa)
    | .no => .no) else .no
  | none => .no
theorem RetF.rvr {B : Bas} {F F' H0 H H' : Hp} {ρ ρ' : Env} {σ : St} {v : V} {r : RV} (g : ∀ a, H a = none → H0 a = none) (has : ∀ k a, HasAt ρ' σ k a → HasAt ρ σ k a) (R : Rel B F ρ σ H) (h : RetF B F' H H' v r) : RvR B F' ρ' σ H0 H' v r := by
  cases r with
  | fz d => exact h
  | sl i => exact h.elim
  | fr o => obtain ⟨a, e, h1, h2, h3⟩ := h; exact ⟨a, e, g a h1, h2, h3, fun k hk => nohas R h1 k (has k a hk)⟩
section
variable {X : Cx} {I : Addr → Value → Option Addr → Prop} {W : WX} {k : Nat} {f : Addr} {fd : FuncData} {ps : List Str} {x : Str} {p pos : Pos} {e : Expr} {es : List Expr} {fs : List ESem} {m : FSem} {n : Nat} {dvs : List V} {ds : List Value} {dfs : List ESem}
/-- the promise of a def speaks of data, whatever exception the caller holds -/
theorem Rel.wi {B : Bas} {I' : Addr → Value → Option Addr → Prop} {F H : Hp} {as : List SV} {σ : St} (ha : as.all argOk = true) (R : Rel B F (envOf as) σ H) : Rel (B.wi I') F (envOf as) σ H := by
  refine ⟨R.ext, R.len, fun i sv h => ?_, R.sep⟩
  obtain ⟨v, h1, h2⟩ := R.sl i sv h
  refine ⟨v, h1, ?_⟩
  have hm : argOk sv = true := by
    unfold envOf at h
    rw [List.getElem?_map] at h
    cases q : as[i]? with
    | none => rw [q] at h; cases h
    | some s => rw [q] at h; injection h with h; injection h with h; subst h; exact List.all_eq_true.mp ha _ (List.mem_of_getElem? q)
  have ho : ∀ a o, RepO B F H a o → RepO (B.wi I') F H a o := fun a o h => by
    cases o with
    | lst ds => obtain ⟨xs, h1, h2⟩ := h; exact ⟨xs, h1, h2.wi⟩
    | ob c fs => obtain ⟨C, dx, vs, g, h1, h2, h3⟩ := h; exact ⟨C, dx, vs, g, h1, h2, h3.wi⟩
  cases sv with
  | fz d => exact Rep.wi h2
  | ow b o => obtain ⟨a, e, f, q⟩ := h2; exact ⟨a, e, f, ho a o q⟩
  | lk o => obtain ⟨a, e, f, q⟩ := h2; exact ⟨a, e, f, ho a o q⟩
  | xn c fs => cases hm
  | dd => trivial
theorem FinR.wi {B : Bas} {I' : Addr → Value → Option Addr → Prop} {F H F' H' : Hp} {as : List SV} {vs : List V} {ρa : Env} (f : FinR B F as vs H F' ρa H') : FinR (B.wi I') F as vs H F' ρa H' :=
  ⟨f.mono, f.newF, f.keep, f.dom, f.ext, fun k o h => let ⟨a, h1, h2, h3⟩ := f.arg k o h; ⟨a, h1, h2, by
    cases o with
    | lst ds => obtain ⟨xs, h1, h2⟩ := h3; exact ⟨xs, h1, h2.wi⟩
    | ob c fs => obtain ⟨C, dx, vs, g, h1, h2, h3⟩ := h3; exact ⟨C, dx, vs, g, h1, h2, h3.wi⟩⟩⟩
theorem RetF.wi {B : Bas} {I' : Addr → Value → Option Addr → Prop} {F' H H' : Hp} {v : V} {r : RV} (h : RetF B F' H H' v r) : RetF (B.wi I') F' H H' v r := by
  cases r with
  | fz d => exact Rep.wi h
  | sl i => exact h.elim
  | fr o =>
    obtain ⟨a, h0, h1, h2, h3⟩ := h
    refine ⟨a, h0, h1, h2, ?_⟩
    cases o with
    | lst ds => obtain ⟨xs, h1, h2⟩ := h3; exact ⟨xs, h1, h2.wi⟩
    | ob c fs => obtain ⟨C, dx, vs, g, h1, h2, h3⟩ := h3; exact ⟨C, dx, vs, g, h1, h2, h3.wi⟩
theorem XR.wi {B : Bas} {I' : Addr → Value → Option Addr → Prop} {F : Hp} {cls : Value} {dd : Option Addr} {c : Str} {fs : List (Str × D)} (h : XR B F cls dd c fs) : XR (B.wi I') F cls dd c fs := by
  obtain ⟨C, h1, h2, h3⟩ := h
  exact ⟨C, h1, h2, h3.imp_right fun ⟨e, vs, q1, q2, q3⟩ => ⟨e, vs, q1, q2, q3.wi⟩⟩
/-- the call, over the data -/
theorem sem_call {t : TA} {F ρ σ H} {as : List SV} {rs : List RV} {vs : List V} {F1 H1 : Hp} {ρ1 : Env} {Q : VK} (R : Rel (bas X I) F ρ σ H) (S1 : Stp F ρ σ H F1 ρ1 σ H1) (L1 : Live ρ ρ1) (R1 : Rel (bas X I) F1 ρ1 σ H1) (pr : PR (bas X I) F1 ρ1 σ vs rs) (ea : argsOf ρ1 rs = some as)
    (nd : (slotsOf rs).Nodup) (hq : (match m as with | .ok r ρa => Out.ok r (back ρ1 rs ρa) | .ex c fs ρa => .ex c fs (back ρ1 rs ρa) | .no => .no).OK (fun r ρ' => PostE (bas X I) F ρ σ H r ρ' Q) (fun c fs ρ' => PostX (bas X I) F ρ σ H c fs ρ' W)) (hn : as.length = n) :
    spOf (bas X I0) n m vs H1 Q (fun cls d H => W cls d σ H) := by
  have aok := argsOf_ok ea
  have R2 : Rel (bas X I0) F1 (envOf as) (vs.map some) H1 := Rel.wi (B := bas X I) (I' := I0) aok (args_rel R1 pr nd ea)
  refine ⟨F1, as, hn, aok, R2, ?_⟩
  have hb := fun ρa => back_at rs ρ1 ρa nd
  cases em : m as with
  | no => rw [em] at hq; exact hq.elim
  | ok r ρa =>
    rw [em] at hq
    refine fun F' H' v f r' => ?_
    obtain ⟨S2, R3⟩ := call_back S1 R1 pr nd ea (FinR.wi (I' := I) f)
    refine hq F' H' v S2 (L1.trans back_live) R3 (RetF.rvr (fun a z => S1.dom a z) (fun k a ⟨sv, h1, h2, h3⟩ => ?_) R1 (RetF.wi (I' := I) r'))
    rcases hb ρa k sv h1 with ⟨q, _⟩ | ⟨j, b, o0, q1, q2, q3⟩
    · exact ⟨sv, q, h2, h3⟩
    · exact ⟨_, q2, rfl, h3⟩
  | ex c fs ρa =>
    rw [em] at hq
    refine fun F' H' cls dd f x => ?_
    obtain ⟨S2, R3⟩ := call_back S1 R1 pr nd ea (FinR.wi (I' := I) f)
    exact hq F' H' cls dd S2 R3 (XR.wi (I' := I) x)
theorem args_len : ∀ {rs : List RV} {ρ : Env} {as : List SV}, argsOf ρ rs = some as → as.length = rs.length
  | [], _, _, e => by cases e; rfl
  | r :: rs, ρ, as, e => by
    simp only [argsOf] at e
    cases q0 : argSV ρ r with
    | none => rw [q0] at e; cases e
    | some a0 =>
      cases q : argsOf ρ rs with
      | none => rw [q0, q] at e; cases e
      | some as' => rw [q0, q] at e; cases e; simp [args_len q]
theorem eP_len : ∀ {fs : List ESem} {ρ ρ' : Env} {rs : List RV}, eP fs ρ = .ok rs ρ' → rs.length = fs.length
  | [], _, _, _, e => by cases e; rfl
  | f :: fs, ρ, ρ', rs, e => by
    rw [eP] at e
    cases q : f ρ with
    | no => rw [q] at e; cases e
    | ex c gs ρ1 => rw [q] at e; cases e
    | ok r ρ1 =>
      rw [q] at e
      simp only [Out.bind] at e
      cases q1 : prm ρ1 r with
      | none => rw [q1] at e; cases e
      | some r' =>
        rw [q1] at e
        dsimp only at e
        cases q2 : eP fs ρ1 with
        | no => rw [q2] at e; cases e
        | ex c gs ρ2 => rw [q2] at e; cases e
        | ok rs' ρ2 => rw [q2] at e; cases e; simp [eP_len q2]
theorem se_call (G : FnOk X.prog X.w X.K X.mg X.base (L2.CX X.prog X.w) k f fd ps (spOf (bas X I0) n m)) (hr : Room k X.A) (hg : Gl X x) (hm : X.mg x = some (.ref f)) (hk : PySem.W.keepIn X.K (.ref f) = true) (hb : Binds X.K fd ps []) (tk : Takes X W)
    (ha : SA X I W (e :: es) (eP fs)) (hn : fs.length = n) (hdb : (x == ("__debug__" : Str)) = false := by decide) (he : starEach (e :: es) X.env = (false, eval e X.env) :: starEach es X.env := by rfl) (hpl : (backTo pos (starEach es X.env)).any (·.1) = false := by rfl) :
    SE X I W (.Call (.Name x p) (e :: es) [] pos) (eCallF m fs) := by
  obtain ⟨t, q, mm⟩ := ha
  refine ⟨_, pe_callSD (E := fun σ cls d H => W cls d σ H) G hr hg hm hk hb .nil (fun σ => passAt tk σ) q hdb he hpl, fun F ρ σ H R Q hq => ?_⟩
  rw [eCallF, Out.OK_bind] at hq
  cases ee : eP fs ρ with
  | no => rw [ee] at hq; exact hq.elim
  | ex c gs ρ1 => exact mm F ρ σ H R _ (by rw [ee] at hq ⊢; exact hq)
  | ok rs ρ1 =>
    refine mm F ρ σ H R _ ?_
    rw [ee] at hq ⊢
    refine fun F1 H1 vs S1 L1 R1 pr => ?_
    show spOf (bas X I0) n m (vs ++ []) H1 Q (fun cls d H => W cls d σ H)
    rw [List.append_nil]
    cases ea : argsOf ρ1 rs with
    | none => simp only [Out.OK, ea] at hq
    | some as =>
      simp only [Out.OK, ea] at hq
      by_cases nd : (slotsOf rs).Nodup
      · rw [if_pos nd] at hq
        exact sem_call (t := t) R S1 L1 R1 pr ea nd hq (by rw [args_len ea, eP_len ee]; exact hn)
      · rw [if_neg nd] at hq; exact hq.elim
end
end DL
end
section
/-! D8: statements as functions of the slots; a def's body. -/
namespace DL
open PySem PySem.Spec L2

inductive SOut where
  | nx (ρ : Env) | rt (r : RV) (ρ : Env) | bk (ρ : Env) | ct (ρ : Env) | ex (c : Str) (fs : List (Str × D)) (ρ : Env) | no
abbrev SSem := Env → SOut
structure SP4 where
  nx : Env → Prop
  rt : RV → Env → Prop
  bk : Env → Prop
  ct : Env → Prop
  ex : Str → List (Str × D) → Env → Prop
def SOut.OK (o : SOut) (p : SP4) : Prop := match o with
  | .nx ρ => p.nx ρ
  | .rt r ρ => p.rt r ρ
  | .bk ρ => p.bk ρ
  | .ct ρ => p.ct ρ
  | .ex c fs ρ => p.ex c fs ρ
  | .no => False
theorem SOut.OK.imp {o : SOut} {p q : SP4} (h : o.OK p) (h1 : ∀ ρ, p.nx ρ → q.nx ρ) (h2 : ∀ r ρ, p.rt r ρ → q.rt r ρ) (h3 : ∀ ρ, p.bk ρ → q.bk ρ) (h4 : ∀ ρ, p.ct ρ → q.ct ρ) (h5 : ∀ c fs ρ, p.ex c fs ρ → q.ex c fs ρ) : o.OK q := by
  cases o with
  | nx ρ => exact h1 _ h
  | rt r ρ => exact h2 _ _ h
  | bk ρ => exact h3 _ h
  | ct ρ => exact h4 _ h
  | ex c fs ρ => exact h5 _ _ _ h
  | no => exact h
def SOut.bind (o : SOut) (f : Env → SOut) : SOut := match o with
  | .nx ρ => f ρ
  | o => o
def Out.sbind {α : Type} (o : Out α) (f : α → Env → SOut) : SOut := match o with
  | .ok a ρ => f a ρ
  | .ex c fs ρ => .ex c fs ρ
  | .no => .no
theorem Out.OK_sbind {α : Type} (o : Out α) (f : α → Env → SOut) (p : SP4) : (o.sbind f).OK p = o.OK (fun a ρ => (f a ρ).OK p) p.ex := by cases o <;> rfl

/-- a value that leaves the def -/
def RetR (B : Bas) (F' : Hp) (ρ : Env) (σ : St) (H H' : Hp) (v : V) : RV → Prop
  | .fz d => Rep B F' v d
  | .fr o => ∃ a, v = .ref a ∧ F' a = none ∧ RepO B F' H' a o ∧ (H a = none ∨ ∃ (k : Nat) (o0 : OB), ρ[k]? = some (some (.ow false o0)) ∧ σ[k]? = some (some (.ref a)))
  | .sl _ => False
def PostN (B : Bas) (F : Hp) (ρ : Env) (σ : St) (H : Hp) (ρ' : Env) (P : St → Hp → Prop) : Prop := ∀ F' σ' H', Stp F ρ σ H F' ρ' σ' H' → Rel B F' ρ' σ' H' → P σ' H'
def PostR (B : Bas) (F : Hp) (ρ : Env) (σ : St) (H : Hp) (r : RV) (ρ' : Env) (P : VK) : Prop := ∀ F' σ' H' v, Stp F ρ σ H F' ρ' σ' H' → Rel B F' ρ' σ' H' → RetR B F' ρ σ H H' v r → P v H'
def PostZ (B : Bas) (F : Hp) (ρ : Env) (σ : St) (H : Hp) (c : Str) (fs : List (Str × D)) (ρ' : Env) (W : WX) : Prop := ∀ F' σ' H' cls dd, Stp F ρ σ H F' ρ' σ' H' → Rel B F' ρ' σ' H' → XR B F' cls dd c fs → W cls dd σ' H'
def posts (B : Bas) (W : WX) (F : Hp) (ρ : Env) (σ : St) (H : Hp) (E : Ends) : SP4 where
  nx := fun ρ' => PostN B F ρ σ H ρ' E.nx
  rt := fun r ρ' => PostR B F ρ σ H r ρ' E.rt
  bk := fun ρ' => PostN B F ρ σ H ρ' E.bk
  ct := fun ρ' => PostN B F ρ σ H ρ' E.ct
  ex := fun c fs ρ' => PostZ B F ρ σ H c fs ρ' W
def SemS (B : Bas) (W : WX) (t : TS) (g : SSem) : Prop := ∀ F ρ σ H, Rel B F ρ σ H → ∀ E : Ends, (g ρ).OK (posts B W F ρ σ H E) → t E σ H
def SS (X : Cx) (I : Addr → Value → Option Addr → Prop) (W : WX) (st : Stmt) (g : SSem) : Prop := ∃ t, PS X st t ∧ SemS (bas X I) W t g
def SSs (X : Cx) (I : Addr → Value → Option Addr → Prop) (W : WX) (st : List Stmt) (g : SSem) : Prop := ∃ t, PSs X st t ∧ SemS (bas X I) W t g

section
variable {B : Bas} {W : WX} {F F1 H H1 : Hp} {ρ ρ1 ρ' : Env} {σ σ1 : St}
theorem PostN.back {P : St → Hp → Prop} (S : Stp F ρ σ H F1 ρ1 σ1 H1) (h : PostN B F ρ σ H ρ' P) : PostN B F1 ρ1 σ1 H1 ρ' P := fun F' σ' H' S' R' => h F' σ' H' (S.trans S') R'
theorem PostZ.back {c : Str} {fs : List (Str × D)} (S : Stp F ρ σ H F1 ρ1 σ1 H1) (h : PostZ B F ρ σ H c fs ρ' W) : PostZ B F1 ρ1 σ1 H1 c fs ρ' W := fun F' σ' H' cls dd S' R' x => h F' σ' H' cls dd (S.trans S') R' x
theorem RetR.back {F' H' : Hp} {v : V} {r : RV} (S : Stp F ρ σ H F1 ρ1 σ1 H1) (h : RetR B F' ρ1 σ1 H1 H' v r) : RetR B F' ρ σ H H' v r := by
  cases r with
  | fz d => exact h
  | sl i => exact h
  | fr o =>
    obtain ⟨a, e, h1, h2, h3⟩ := h
    refine ⟨a, e, h1, h2, ?_⟩
    rcases h3 with h3 | ⟨k, o0, g1, g2⟩
    · exact .inl (S.dom a h3)
    · rcases S.own k false o0 a g1 g2 with ⟨_, q⟩ | ⟨o1, q1, q2⟩
      · exact .inl q
      · exact .inr ⟨k, o1, q1, q2⟩
theorem PostR.back {r : RV} {P : VK} (S : Stp F ρ σ H F1 ρ1 σ1 H1) (h : PostR B F ρ σ H r ρ' P) : PostR B F1 ρ1 σ1 H1 r ρ' P := fun F' σ' H' v S' R' x => h F' σ' H' v (S.trans S') R' (x.back S)
theorem posts_back {E : Ends} {o : SOut} (S : Stp F ρ σ H F1 ρ1 σ1 H1) (h : o.OK (posts B W F ρ σ H E)) : o.OK (posts B W F1 ρ1 σ1 H1 E) :=
  h.imp (fun _ q => q.back S) (fun _ _ q => q.back S) (fun _ q => q.back S) (fun _ q => q.back S) fun _ _ _ q => q.back S
/-- an expression's raise, in a statement -/
theorem PostX.ofZ {c : Str} {fs : List (Str × D)} (h : PostZ B F ρ σ H c fs ρ' W) : PostX B F ρ σ H c fs ρ' W := fun F' H' cls dd S R x => h F' σ H' cls dd S R x
end

section
variable {X : Cx} {I : Addr → Value → Option Addr → Prop} {W : WX} {st : Stmt} {rest : List Stmt} {g g' : SSem} {e : Expr} {f : ESem} {pos : Pos}
/-! ### in a row -/
def sN : SSem := fun ρ => .nx ρ
def sQ (g g' : SSem) : SSem := fun ρ => (g ρ).bind g'
theorem nx_now {B : Bas} {W : WX} {F H : Hp} {ρ : Env} {σ : St} {P : St → Hp → Prop} (R : Rel B F ρ σ H) (h : PostN B F ρ σ H ρ P) : P σ H := h F σ H (Stp.refl _ _ _ _) R
theorem sss_nil : SSs X I W [] sN := ⟨_, pss_nil, fun F ρ σ H R E h => nx_now (W := W) R h⟩
theorem ss_pass : SS X I W (.Pass pos) sN := ⟨_, ps_pass, fun F ρ σ H R E h => nx_now (W := W) R h⟩
theorem ss_break : SS X I W (.Break pos) (fun ρ => .bk ρ) := ⟨_, ps_break, fun F ρ σ H R E h => nx_now (W := W) R h⟩
theorem ss_continue : SS X I W (.Continue pos) (fun ρ => .ct ρ) := ⟨_, ps_continue, fun F ρ σ H R E h => nx_now (W := W) R h⟩
theorem ss_doc {x : Str} {j : Nat} {pos' : Pos} : SS X I W (.Expr (.Constant (.str x) j pos) pos') sN := ⟨_, ps_doc, fun F ρ σ H R E h => nx_now (W := W) R h⟩
theorem sss_cons (h : SS X I W st g) (k : SSs X I W rest g') : SSs X I W (st :: rest) (sQ g g') := by
  obtain ⟨t, p, m⟩ := h
  obtain ⟨u, q, n⟩ := k
  refine ⟨_, pss_cons p q, fun F ρ σ H R E hq => ?_⟩
  refine m F ρ σ H R _ ?_
  unfold sQ SOut.bind at hq
  cases e : g ρ with
  | nx ρ1 =>
    rw [e] at hq
    exact fun F1 σ1 H1 S1 R1 => n F1 ρ1 σ1 H1 R1 E (posts_back S1 hq)
  | rt r ρ1 => rw [e] at hq; exact hq
  | bk ρ1 => rw [e] at hq; exact hq
  | ct ρ1 => rw [e] at hq; exact hq
  | ex c fs ρ1 => rw [e] at hq; exact hq
  | no => rw [e] at hq; exact hq
theorem sss_one (h : SS X I W st g) : SSs X I W [st] g := let ⟨t, p, m⟩ := h; ⟨t, pss_one p, m⟩
/-! ### an expression as a statement; return -/
def sE (f : ESem) : SSem := fun ρ => (f ρ).sbind fun _ ρ1 => .nx ρ1
theorem ss_expr (h : SE X I W e f) (hs : swapsWith e none pos.line X.env = pure false := by rfl) : SS X I W (.Expr e pos) (sE f) := by
  obtain ⟨t, p, m⟩ := h
  refine ⟨_, ps_expr p hs, fun F ρ σ H R E hq => ?_⟩
  rw [sE, Out.OK_sbind] at hq
  exact m F ρ σ H R _ (hq.imp (fun r ρ1 q F1 H1 v S1 L1 R1 r1 => q F1 σ H1 S1 R1) fun _ _ _ z => PostX.ofZ z)
/-- what a def gives back: of its own slots' lists it gives the list itself -/
def retV (ρ : Env) : RV → Option (RV × Env)
  | .fz d => some (.fz d, ρ)
  | .fr o => some (.fr o, ρ)
  | .sl i => match ρ[i]? with
    | some (some (.fz d)) => some (.fz d, ρ)
    | some (some (.ow false o)) => some (.fr o, ρ)
    | _ => none
def sR (f : ESem) : SSem := fun ρ => (f ρ).sbind fun r ρ1 => match retV ρ1 r with
  | some (r', ρ2) => .rt r' ρ2
  | none => .no
theorem retV_ok {B : Bas} {F F1 H H1 : Hp} {ρ ρ1 ρ2 : Env} {σ : St} {v : V} {r r' : RV} (S : Stp F ρ σ H F1 ρ1 σ H1) (R : Rel B F1 ρ1 σ H1) (h : RvR B F1 ρ1 σ H H1 v r) (e : retV ρ1 r = some (r', ρ2)) : ρ2 = ρ1 ∧ RetR B F1 ρ σ H H1 v r' := by
  cases r with
  | fz d => cases e; exact ⟨rfl, h⟩
  | fr o => cases e; obtain ⟨a, e1, h0, h1, h2, _⟩ := h; exact ⟨rfl, a, e1, h1, h2, .inl h0⟩
  | sl i =>
    obtain ⟨h1, sv, h2⟩ := h
    obtain ⟨v', g1, g2⟩ := R.sl i sv h2
    rw [h1] at g1; cases g1
    simp only [retV, h2] at e
    cases sv with
    | fz d => cases e; exact ⟨rfl, g2⟩
    | ow b o =>
      cases b with
      | true => cases e
      | false =>
        cases e
        obtain ⟨a, e1, q1, q2⟩ := g2
        subst e1
        refine ⟨rfl, a, rfl, q1, q2, ?_⟩
        rcases S.own i false o a h2 h1 with ⟨_, q⟩ | ⟨o0, w1, w2⟩
        · exact .inl q
        · exact .inr ⟨i, o0, w1, w2⟩
    | lk o => cases e
    | xn c fs => cases e
    | dd => cases e
theorem ss_ret (h : SE X I W e f) : SS X I W (.Return (some e) pos) (sR f) := by
  obtain ⟨t, p, m⟩ := h
  refine ⟨_, ps_ret p, fun F ρ σ H R E hq => ?_⟩
  rw [sR, Out.OK_sbind] at hq
  refine m F ρ σ H R _ (hq.imp (fun r ρ1 q F1 H1 v S1 L1 R1 r1 => ?_) fun _ _ _ z => PostX.ofZ z)
  cases e : retV ρ1 r with
  | none => rw [e] at q; exact q.elim
  | some z =>
    obtain ⟨r', ρ2⟩ := z
    rw [e] at q
    obtain ⟨e2, r2⟩ := retV_ok S1 R1 r1 e
    subst e2
    exact q F1 σ H1 v S1 R1 r2
theorem ss_retN : SS X I W (.Return none pos) (fun ρ => .rt (.fz .non) ρ) := ⟨_, ps_retN, fun F ρ σ H R E h => h F σ H .non (Stp.refl _ _ _ _) R Rep.non⟩
/-! ### if -/
def sIf (c : CSem) (g g' : SSem) : SSem := fun ρ => (c ρ).sbind fun k ρ1 => if k = true then g ρ1 else g' ρ1
theorem ss_if {c : Expr} {a b : List Stmt} {cf : CSem} (hc : SC X I W c cf) (h : SSs X I W a g) (k : SSs X I W b g') : SS X I W (.If c a b pos) (sIf cf g g') := by
  obtain ⟨tc, pc, mc⟩ := hc
  obtain ⟨t, p, m⟩ := h
  obtain ⟨u, q, n⟩ := k
  refine ⟨_, ps_if pc p q, fun F ρ σ H R E hq => ?_⟩
  rw [sIf, Out.OK_sbind] at hq
  refine mc F ρ σ H R _ (hq.imp (fun k ρ1 hq F1 H1 S1 L1 R1 => ?_) fun _ _ _ z => PostX.ofZ z)
  cases k with
  | true => rw [if_pos rfl] at hq ⊢; exact m F1 ρ1 σ H1 R1 E (posts_back S1 hq)
  | false => rw [if_neg Bool.false_ne_true] at hq ⊢; exact n F1 ρ1 σ H1 R1 E (posts_back S1 hq)
end

/-! ### a name's store -/
/-- what a name then holds; a slot's own list that gets a second name is plain data from then on -/
def putV (ρ : Env) (i : Nat) : RV → Option Env
  | .fz d => some (ρ.set i (some (.fz d)))
  | .fr o => some (ρ.set i (some (.ow false o)))
  | .sl j => match frz ρ (.sl j) with
    | some (d, ρ') => some (ρ'.set i (some (.fz d)))
    | none => none
theorem set_same {α : Type} {l : List α} {i : Nat} {x y : α} (h : (l.set i x)[i]? = some y) : y = x := by
  rcases get_set h with ⟨_, e⟩ | ⟨e, _⟩
  · exact e
  · exact absurd rfl e
theorem Rel.put {B : Bas} {F F0 H H0 : Hp} {ρ ρ0 : Env} {σ σ0 : St} {i : Nat} {v : V} {sv : SV} (R : Rel B F ρ σ H) (S : Stp F0 ρ0 σ0 H0 F ρ σ H) (h : SvR B F H v sv) (ho : sv.obj = true → ∃ o, sv = .ow false o ∧ ∃ a, v = .ref a ∧ H0 a = none ∧ ∀ k, ¬ HasAt ρ σ k a) :
    Rel B F (ρ.set i (some sv)) (σ.set i (some v)) H ∧ Stp F0 ρ0 σ0 H0 F (ρ.set i (some sv)) (σ.set i (some v)) H := by
  have old : ∀ (k : Nat) (s : SV), (ρ.set i (some sv))[k]? = some (some s) → (i = k ∧ s = sv) ∨ (i ≠ k ∧ ρ[k]? = some (some s)) := fun k s q => by
    rcases get_set q with ⟨e, z⟩ | ⟨e, z⟩
    · injection z with z; exact .inl ⟨e, z⟩
    · exact .inr ⟨e, z⟩
  have oldv : ∀ (k : Nat) (a : Addr), i ≠ k → (σ.set i (some v))[k]? = some (some (.ref a)) → σ[k]? = some (some (.ref a)) := fun k a e q => by
    rcases get_set q with ⟨z, _⟩ | ⟨_, z⟩
    · exact absurd z e
    · exact z
  have newv : ∀ (a : Addr), (σ.set i (some v))[i]? = some (some (.ref a)) → v = .ref a := fun a q => by
    have := set_same q
    injection this with this
    exact this.symm
  have hasC : ∀ k a, HasAt (ρ.set i (some sv)) (σ.set i (some v)) k a → (i = k ∧ H0 a = none ∧ ∀ j, ¬ HasAt ρ σ j a) ∨ (i ≠ k ∧ HasAt ρ σ k a) := fun k a ⟨s, q1, q2, q3⟩ => by
    rcases old k s q1 with ⟨e, z⟩ | ⟨e, z⟩
    · subst e; subst z
      obtain ⟨o, _, a', e', h0, hn⟩ := ho q2
      have e2 := newv a q3
      rw [e'] at e2; cases e2
      exact .inl ⟨rfl, h0, hn⟩
    · exact .inr ⟨e, s, z, q2, oldv k a e q3⟩
  refine ⟨⟨R.ext, by rw [List.length_set, List.length_set]; exact R.len, fun k s q => ?_, fun j k a q1 q2 => ?_⟩, ⟨S.mono, S.newF, S.keep, S.dom, fun k a q => ?_, fun k b o a q1 q2 => ?_, fun k o a q1 q2 => ?_⟩⟩
  · rcases old k s q with ⟨e, z⟩ | ⟨e, z⟩
    · subst e; subst z
      have hi : i < ρ.length := by
        have := (List.getElem?_eq_some_iff.mp q).1
        rwa [List.length_set] at this
      exact ⟨v, by rw [List.getElem?_set, if_pos rfl, if_pos (by rw [R.len]; exact hi)], h⟩
    · obtain ⟨w, g1, g2⟩ := R.sl k s z
      exact ⟨w, by rw [List.getElem?_set, if_neg e]; exact g1, g2⟩
  · have q1' := q1.has
    rcases hasC j a q1' with ⟨e1, z1, n1⟩ | ⟨e1, z1⟩
    · rcases hasC k a q2 with ⟨e2, _, _⟩ | ⟨_, z2⟩
      · exact e1.symm.trans e2
      · exact absurd z2 (n1 k)
    · rcases hasC k a q2 with ⟨_, _, n2⟩ | ⟨e2, z2⟩
      · exact absurd z1 (n2 j)
      · obtain ⟨b, o, w1, w2⟩ := q1
        rcases old j _ w1 with ⟨e, _⟩ | ⟨_, w1⟩
        · exact absurd e e1
        · exact R.sep j k a ⟨b, o, w1, oldv j a e1 w2⟩ z2
  · rcases hasC k a q with ⟨_, z, _⟩ | ⟨_, z⟩
    · exact .inl z
    · exact S.has k a z
  · rcases old k _ q1 with ⟨e, z⟩ | ⟨e, z⟩
    · subst e
      obtain ⟨o', e', a', ea, h0, _⟩ := ho (by rw [← z]; rfl)
      rw [e'] at z; cases z
      have e2 := newv a q2
      rw [ea] at e2; cases e2
      exact .inl ⟨rfl, h0⟩
    · exact S.own k b o a z (oldv k a e q2)
  · rcases old k _ q1 with ⟨e, z⟩ | ⟨e, z⟩
    · obtain ⟨o', e', _⟩ := ho (by rw [← z]; rfl)
      rw [e'] at z; cases z
    · exact S.lks k o a z (oldv k a e q2)
theorem putV_ok {B : Bas} {F F0 H H0 : Hp} {ρ ρ0 ρ' : Env} {σ σ0 : St} {i : Nat} {v : V} {r : RV} (R : Rel B F ρ σ H) (S : Stp F0 ρ0 σ0 H0 F ρ σ H) (h : RvR B F ρ σ H0 H v r) (e : putV ρ i r = some ρ') :
    ∃ F', Rel B F' ρ' (σ.set i (some v)) H ∧ Stp F0 ρ0 σ0 H0 F' ρ' (σ.set i (some v)) H := by
  cases r with
  | fz d => cases e; exact ⟨F, R.put (sv := .fz d) S h (fun z => nomatch z)⟩
  | fr o =>
    cases e
    obtain ⟨a, e1, h0, hf, hr, hn⟩ := h
    exact ⟨F, R.put (sv := .ow false o) S ⟨a, e1, hf, hr⟩ fun _ => ⟨o, rfl, a, e1, h0, hn⟩⟩
  | sl j =>
    simp only [putV] at e
    cases q : frz ρ (.sl j) with
    | none => rw [q] at e; cases e
    | some z =>
      obtain ⟨d, ρ1⟩ := z
      rw [q] at e; cases e
      obtain ⟨F', S', _, R', r', _⟩ := frz_ok R S h q
      exact ⟨F', R'.put (sv := .fz d) S' r' (fun z => nomatch z)⟩
section
variable {X : Cx} {I : Addr → Value → Option Addr → Prop} {W : WX} {st : Stmt} {rest : List Stmt} {g g' : SSem} {e : Expr} {f : ESem} {pos : Pos}
def sA (i : Nat) (f : ESem) : SSem := fun ρ => (f ρ).sbind fun r ρ1 => match putV ρ1 i r with
  | some ρ2 => .nx ρ2
  | none => .no
theorem sem_asg {B : Bas} {i : Nat} {t : TE} (m : SemG B W t f (PostE B)) : SemS B W (tAsg t (gName i)) (sA i f) := by
  intro F ρ σ H R E hq
  rw [sA, Out.OK_sbind] at hq
  refine m F ρ σ H R _ (hq.imp (fun r ρ1 hq F1 H1 v S1 L1 R1 r1 => ?_) fun _ _ _ z => PostX.ofZ z)
  cases e : putV ρ1 i r with
  | none => rw [e] at hq; exact hq.elim
  | some ρ2 =>
    rw [e] at hq
    obtain ⟨F2, R2, S2⟩ := putV_ok R1 S1 r1 e
    exact hq F2 _ H1 S2 R2
theorem ss_set {i : Nat} {x : Str} {pos' : Pos} (hN : X.N.Nodup) (hi : X.N[i]? = some x) (hx : Loc X.env.scope x) (h : SE X I W e f) (hs : swapsWith e (some (.Name x pos')) pos.line X.env = pure false := by rfl) (hf : X.fn x = true ∨ X.env.scope.names.lookup x = some .local := by first | exact .inl rfl | exact .inr rfl | assumption) :
    SS X I W (.Assign [.Name x pos'] e pos) (sA i f) := by
  obtain ⟨t, p, m⟩ := h
  exact ⟨_, ps_set hN hi hx p hs hf, sem_asg m⟩
/-! ### a, b = x, y -/
def sPar (i j : Nat) (fa fb : ESem) : SSem := fun ρ => (eL [fa, fb] ρ).sbind fun ds ρ1 => match ds with
  | [x, y] => .nx ((ρ1.set i (some (.fz x))).set j (some (.fz y)))
  | _ => .no
theorem ss_par {i j : Nat} {x y : Str} {a b : Expr} {fa fb : ESem} {px py pt : Pos} {kt k2 : Nat} {pt2 : Pos} (hc : X.calm = true) (hN : X.N.Nodup) (hi : X.N[i]? = some x) (hj : X.N[j]? = some y) (hij : i ≠ j)
    (hx : X.env.scope.names.lookup x = some .local) (hy : X.env.scope.names.lookup y = some .local) (ha : SL X I W [a, b] (eL [fa, fb]))
    (hw : swappedStores [.Tuple [.Name x px, .Name y py] kt pt] (.Tuple [a, b] k2 pt2) X.env = pure (some [x, y]))
    (hs : swapsWithSole [.Tuple [.Name x px, .Name y py] kt pt] (.Tuple [a, b] k2 pt2) pos.line X.env = pure false := by rfl) :
    SS X I W (.Assign [.Tuple [.Name x px, .Name y py] kt pt] (.Tuple [a, b] k2 pt2) pos) (sPar i j fa fb) := by
  obtain ⟨t, p, m⟩ := ha
  refine ⟨_, ps_par hc hN hi hj hij hx hy p hw hs, fun F ρ σ H R E hq => ?_⟩
  rw [sPar, Out.OK_sbind] at hq
  refine m F ρ σ H R _ (hq.imp (fun ds ρ1 hq F1 H1 vs S1 L1 R1 r1 => ?_) fun _ _ _ z => PostX.ofZ z)
  cases r1 with
  | nil => exact hq.elim
  | cons r1 r2 =>
    cases r2 with
    | nil => exact hq.elim
    | cons r2 r3 =>
      cases r3 with
      | cons _ _ => exact hq.elim
      | nil =>
        refine ⟨_, _, rfl, ?_⟩
        obtain ⟨R2, S2⟩ := R1.put (i := i) (sv := .fz _) S1 r1 (fun z => nomatch z)
        obtain ⟨R3, S3⟩ := R2.put (i := j) (sv := .fz _) S2 r2 (fun z => nomatch z)
        exact hq F1 _ H1 S3 R3
end

/-! ### a def's body -/
def runB (g : SSem) (n : Nat) : FSem := fun as => match g (envOf as ++ List.replicate (n - as.length) none) with
  | .nx ρ => .ok (.fz .non) ρ
  | .rt r ρ => .ok r ρ
  | .ex c fs ρ => .ex c fs ρ
  | _ => .no
theorem get_app {α : Type} {l m : List α} {k : Nat} {x : α} (h : (l ++ m)[k]? = some x) : l[k]? = some x ∨ x ∈ m := by
  rw [List.getElem?_append] at h
  split at h
  · exact .inl h
  · exact .inr (List.mem_of_getElem? h)
section
variable {P : Program} {w : World} {K : PySem.W.Frag} {mg : Str → Option Value} {base : Heap}
theorem start_rel {B : Bas} {F H : Hp} {as : List SV} {vs : List V} {n : Nat} {N : List Str} (hl : vs.length = as.length) (hN : N.length = n) (R : Rel B F (envOf as) (vs.map some) H) : Rel B F (envOf as ++ List.replicate (n - as.length) none) (L2.start N vs) H := by
  unfold L2.start
  have gρ : ∀ (k : Nat) (sv : SV), (envOf as ++ List.replicate (n - as.length) none)[k]? = some (some sv) → (envOf as)[k]? = some (some sv) := fun k sv h => by
    rcases get_app h with h | h
    · exact h
    · exact absurd (List.eq_of_mem_replicate h) (by simp)
  have gσ : ∀ (k : Nat) (v : V), (vs.map some ++ List.replicate (N.length - vs.length) none)[k]? = some (some v) → (vs.map some)[k]? = some (some v) := fun k v h => by
    rcases get_app h with h | h
    · exact h
    · exact absurd (List.eq_of_mem_replicate h) (by simp)
  refine ⟨R.ext, by unfold envOf; simp only [List.length_append, List.length_map, List.length_replicate]; omega, fun k sv h => ?_, fun i j a h1 h2 => ?_⟩
  · obtain ⟨v, g1, g2⟩ := R.sl k sv (gρ k sv h)
    exact ⟨v, by rw [List.getElem?_append, if_pos (List.getElem?_eq_some_iff.mp g1).1]; exact g1, g2⟩
  · obtain ⟨b, o, w1, w2⟩ := h1
    obtain ⟨s, w3, w4, w5⟩ := h2
    exact R.sep i j a ⟨b, o, gρ _ _ w1, gσ _ _ w2⟩ ⟨s, gρ _ _ w3, w4, gσ _ _ w5⟩
/-- from the slots' end to what the caller is told -/
theorem fin_of {B : Bas} {F H F' H' : Hp} {as : List SV} {vs : List V} {n : Nat} {N : List Str} {ρ' : Env} {σ' : St} (hl : vs.length = as.length) (hN : N.length = n) (S : Stp F (envOf as ++ List.replicate (n - as.length) none) (L2.start N vs) H F' ρ' σ' H') (R : Rel B F' ρ' σ' H') : FinR B F as vs H F' ρ' H' := by
  have gρ : ∀ (k : Nat) (sv : SV), (envOf as ++ List.replicate (n - as.length) none)[k]? = some (some sv) → (envOf as)[k]? = some (some sv) := fun k sv h => by
    rcases get_app h with h | h
    · exact h
    · exact absurd (List.eq_of_mem_replicate h) (by simp)
  have gσ : ∀ (k : Nat) (v : V), (L2.start N vs)[k]? = some (some v) → (vs.map some)[k]? = some (some v) := fun k v h => by
    unfold L2.start at h
    rcases get_app h with h | h
    · exact h
    · exact absurd (List.eq_of_mem_replicate h) (by simp)
  have own : ∀ k a, OwnAt (envOf as ++ List.replicate (n - as.length) none) (L2.start N vs) k a → OwnAt (envOf as) (vs.map some) k a := fun k a ⟨b, o, h1, h2⟩ => ⟨b, o, gρ _ _ h1, gσ _ _ h2⟩
  refine ⟨S.mono, fun a h => ?_, fun a o h hn => S.keep a o h fun k hk => hn k (own k a hk), S.dom, R.ext, fun k o h => ?_⟩
  · rcases S.newF a h with h | h | ⟨k, h⟩
    · exact .inl h
    · exact .inr (.inl h)
    · exact .inr (.inr ⟨k, own k a h⟩)
  · obtain ⟨v, g1, a, e, g2, g3⟩ := R.sl k _ h
    subst e
    rcases S.own k true o a h g1 with ⟨z, _⟩ | ⟨o0, q1, q2⟩
    · cases z
    · have q2' := gσ _ _ q2
      rw [List.getElem?_map] at q2'
      refine ⟨a, ?_, g2, g3⟩
      cases w : vs[k]? with
      | none => rw [w] at q2'; cases q2'
      | some u => rw [w] at q2'; exact Option.some.inj q2'
theorem fn_data {x qual : Str} {st : Stmt} {f : Addr} {fd : FuncData} {N ps : List Str} {k : Nat} {g : SSem} (Fn : Fun K x qual st f fd) (S : FnScope N ps (defScope st))
    (body : ∀ (cdv : Value) (A : Around) (outer : List PySem.Env) (s : Shared) (H : Hp) (E : XK) , Room k (A.deeper (PyProof.Rows.envOfC qual (defScope st) s.heap.objs.size f cdv)) →
      Takes (cxOf (L2.CX P w) P w K mg base N qual (defScope st) f cdv A outer s H E) (fun cls d _ H => E cls d H) →
      SSs (cxOf (L2.CX P w) P w K mg base N qual (defScope st) f cdv A outer s H E) I0 (fun cls d _ H => E cls d H) (defBody st) g) :
    FnOk P w K mg base (L2.CX P w) (k + 1) f fd ps (spOf ⟨K, mg, I0⟩ ps.length (runB g N.length)) := by
  refine Fn.okX S (fun vs H Q E h => spOf_len vs H Q E h) fun cdv A outer s H vs Q E hr h => ?_
  have hlen := spOf_len vs H Q E h
  obtain ⟨F, as, hn, ha, R, hq⟩ := h
  have hl : vs.length = as.length := hlen.trans hn.symm
  obtain ⟨t, p, m⟩ := body cdv A outer s H E hr (takes_of rfl rfl rfl rfl)
  refine ⟨t, p, m F _ (L2.start N vs) H (start_rel hl rfl R) _ ?_⟩
  unfold runB at hq
  have noF' : ∀ (k : Nat) (o0 : OB), (envOf as ++ List.replicate (N.length - as.length) none)[k]? ≠ some (some (.ow false o0)) := fun k o0 h => by
    rcases get_app h with h | h
    · unfold envOf at h
      rw [List.getElem?_map] at h
      cases w : as[k]? with
      | none => rw [w] at h; cases h
      | some u =>
        rw [w] at h; injection h with h; injection h with h; subst h
        have := List.all_eq_true.mp ha _ (List.mem_of_getElem? w)
        cases this
    · exact absurd (List.eq_of_mem_replicate h) (by simp)
  cases e : g (envOf as ++ List.replicate (N.length - as.length) none) with
  | nx ρ' => rw [e] at hq; exact fun F' σ' H' S' R' => hq F' H' .non (fin_of hl rfl S' R') Rep.non
  | rt r ρ' =>
    rw [e] at hq
    refine fun F' σ' H' v S' R' r' => hq F' H' v (fin_of hl rfl S' R') ?_
    cases r with
    | fz d => exact r'
    | sl i => exact r'
    | fr o =>
      obtain ⟨a, e1, h1, h2, h3⟩ := r'
      rcases h3 with h3 | ⟨k, o0, h3, _⟩
      · exact ⟨a, e1, h3, h1, h2⟩
      · exact absurd h3 (noF' k o0)
  | bk ρ' => rw [e] at hq; exact hq.elim
  | ct ρ' => rw [e] at hq; exact hq.elim
  | ex c fs ρ' => rw [e] at hq; exact fun F' σ' H' cls dd S' R' x => hq F' H' cls dd (fin_of hl rfl S' R') x
  | no => rw [e] at hq; exact hq.elim
end
end DL
end
section
/-! D9: what changes a slot's list; loops. -/
namespace DL
open PySem PySem.Spec L2

/-! ### a slot's list changed -/
theorem Rel.mutate {B : Bas} {F H : Hp} {ρ : Env} {σ : St} {k : Nat} {b : Bool} {o o' : OB} {a : Addr} {u : HO} (R : Rel B F ρ σ H) (h1 : ρ[k]? = some (some (.ow b o))) (h2 : σ[k]? = some (some (.ref a))) (hn : RepO B F (upd H a u) a o') :
    Rel B F (ρ.set k (some (.ow b o'))) σ (upd H a u) ∧ Stp F ρ σ H F (ρ.set k (some (.ow b o'))) σ (upd H a u) := by
  obtain ⟨v, g1, a', e, hf, hr⟩ := R.sl k _ h1
  rw [h2] at g1; cases g1; cases e
  have own : OwnAt ρ σ k a := ⟨b, o, h1, h2⟩
  have kp : ∀ c w, c ≠ a → H c = some w → upd H a u c = some w := fun c w z q => by rw [upd_ne z]; exact q
  have old : ∀ (j : Nat) (s : SV), (ρ.set k (some (.ow b o')))[j]? = some (some s) → (k = j ∧ s = .ow b o') ∨ (k ≠ j ∧ ρ[j]? = some (some s)) := fun j s q => by
    rcases get_set q with ⟨e, z⟩ | ⟨e, z⟩
    · injection z with z; exact .inl ⟨e, z⟩
    · exact .inr ⟨e, z⟩
  have has : ∀ j c, HasAt (ρ.set k (some (.ow b o'))) σ j c → HasAt ρ σ j c := fun j c ⟨s, q1, q2, q3⟩ => by
    rcases old j s q1 with ⟨e, _⟩ | ⟨_, z⟩
    · subst e; exact ⟨_, h1, rfl, q3⟩
    · exact ⟨s, z, q2, q3⟩
  have ow : ∀ (j : Nat) (b' : Bool) (o1 : OB), (ρ.set k (some (.ow b o')))[j]? = some (some (.ow b' o1)) → ∃ o2, ρ[j]? = some (some (.ow b' o2)) := fun j b' o1 q => by
    rcases old j _ q with ⟨e, z⟩ | ⟨_, z⟩
    · subst e; cases z; exact ⟨o, h1⟩
    · exact ⟨o1, z⟩
  refine ⟨⟨fun c w q => kp c w (fun z => by rw [z, hf] at q; cases q) (R.ext c w q), by rw [List.length_set]; exact R.len, fun j s q => ?_, fun i j c q1 q2 => ?_⟩,
    ⟨fun _ _ q => q, fun _ q => .inl q, fun c w q hno => kp c w (fun z => hno k (by rw [z]; exact own)) q, fun c q => ?_, fun j c q => .inr (has j c q), fun j b' o1 c q1 q2 => let ⟨o2, q⟩ := ow j b' o1 q1; .inr ⟨o2, q, q2⟩, fun j o1 c q1 q2 => ?_⟩⟩
  · rcases old j s q with ⟨e, z⟩ | ⟨e, z⟩
    · subst e; subst z; exact ⟨_, h2, a, rfl, hf, hn⟩
    · obtain ⟨w, w1, w2⟩ := R.sl j s z
      refine ⟨w, w1, ?_⟩
      have ne : s.obj = true → ∀ c, w = .ref c → c ≠ a := fun hs c ec ea => by
        subst ec; subst ea
        exact e (R.sep k j c own ⟨s, z, hs, w1⟩)
      cases s with
      | fz d => exact w2
      | ow b' o1 => obtain ⟨c, e1, e2, e3⟩ := w2; exact ⟨c, e1, e2, e3.keep (fun _ _ q => q) fun w q => kp c w (ne rfl c e1) q⟩
      | lk o1 => obtain ⟨c, e1, e2, e3⟩ := w2; exact ⟨c, e1, e2, e3.keep (fun _ _ q => q) fun w q => kp c w (ne rfl c e1) q⟩
      | xn c fs => exact w2
      | dd => trivial
  · obtain ⟨b', o1, w1, w2⟩ := q1
    obtain ⟨o2, q⟩ := ow i b' o1 w1
    exact R.sep i j c ⟨b', o2, q, w2⟩ (has j c q2)
  · by_cases z : c = a
    · subst z; rw [upd_same] at q; cases q
    · rw [upd_ne z] at q; exact q
  · rcases old j _ q1 with ⟨_, z⟩ | ⟨_, z⟩
    · cases z
    · exact ⟨o1, z, q2⟩

/-- a method that changes the list of a slot: what it gives, what the list becomes -/
abbrev MSem := List D → List D → Option (D × List D)
def MutS (B : Bas) (r : V → List V → Hp → VK → Prop) (g : MSem) : Prop := ∀ (F H : Hp) (a : Addr) (us : List V) (xs : List D) (vs : List V) (ds : List D) (d : D) (xs' : List D), (∀ a o, F a = some o → H a = some o) → H a = some (.lst us) → RepL B F us xs → RepL B F vs ds → g xs ds = some (d, xs') → ∀ Q : VK,
  (∀ w us', RepL B F us' xs' → Rep B F w d → Q w (upd H a (.lst us'))) → r (.ref a) vs H Q
def eMut (k : Nat) (g : MSem) (fs : List ESem) : ESem := fun ρ => match ρ[k]? with
  | some (some (.ow _ (.lst _))) => (eL fs ρ).bind fun ds ρ1 => (match ρ1[k]? with
    | some (some (.ow b (.lst xs))) => (match g xs ds with
      | some (d, xs') => .ok (.fz d) (ρ1.set k (some (.ow b (.lst xs'))))
      | none => .no)
    | _ => .no)
  | _ => .no
section
variable {X : Cx} {I : Addr → Value → Option Addr → Prop} {W : WX} {e : Expr} {es : List Expr} {fs : List ESem} {g : MSem} {r : V → List V → Hp → VK → Prop} {k : Nat} {x name : Str} {apos cpos p : Pos} {id : String}
theorem sem_mut {t : TA} (hg : MutS (bas X I) r g) (m : SemG (bas X I) W t (eL fs) (PostL (bas X I))) : SemG (bas X I) W (tBM X.K "list" r (tVar k) t) (eMut k g fs) (PostE (bas X I)) := by
  intro F ρ σ H R Q hq
  unfold eMut at hq
  cases e1 : ρ[k]? with
  | none => rw [e1] at hq; exact hq.elim
  | some o =>
    cases o with
    | none => rw [e1] at hq; exact hq.elim
    | some sv =>
      obtain ⟨v, h1, h2⟩ := R.sl k sv e1
      cases sv with
      | ow b o =>
        cases o with
        | ob c fs => rw [e1] at hq; exact hq.elim
        | lst xs =>
          rw [e1] at hq
          dsimp only at hq
          obtain ⟨a, e2, hf, us, hH, hl⟩ := h2
          subst e2
          refine ⟨_, h1, .inl ⟨rfl, us, SqL.of hH⟩, ?_⟩
          rw [Out.OK_bind] at hq
          refine m F ρ σ H R _ (hq.imp (fun ds ρ1 hq F1 H1 vs S1 L1 R1 r1 => ?_) fun _ _ _ z => z)
          cases e3 : ρ1[k]? with
          | none => rw [e3] at hq; exact hq.elim
          | some o =>
            cases o with
            | none => rw [e3] at hq; exact hq.elim
            | some sv1 =>
              cases sv1 with
              | ow b1 o1 =>
                cases o1 with
                | ob c fs => rw [e3] at hq; exact hq.elim
                | lst xs1 =>
                  rw [e3] at hq
                  dsimp only at hq
                  obtain ⟨v1, g1, g2⟩ := R1.sl k _ e3
                  rw [h1] at g1; cases g1
                  obtain ⟨a', e4, hf1, us1, hH1, hl1⟩ := g2
                  cases e4
                  cases e5 : g xs1 ds with
                  | none => rw [e5] at hq; exact hq.elim
                  | some z =>
                    obtain ⟨d, xs'⟩ := z
                    rw [e5] at hq
                    refine hg F1 H1 a us1 xs1 vs ds d xs' R1.ext hH1 hl1 r1 e5 Q fun w us' l' w' => ?_
                    obtain ⟨R2, S2⟩ := R1.mutate (o' := .lst xs') (u := .lst us') e3 h1 ⟨us', upd_same, l'⟩
                    exact hq F1 _ w (S1.trans S2) (L1.trans live_set) R2 w'
              | _ => rw [e3] at hq; exact hq.elim
      | _ => rw [e1] at hq; exact hq.elim
theorem se_mut (slot : Slot "list" name id) (hty : typeOf (.builtin id) = pure (.type "method_descriptor")) (hm : MtR X id r) (hg : MutS (bas X I) r g) (hv : PE X (.Name x p) (tVar k)) (h : SL X I W (e :: es) (eL fs))
    (hbase : attributeBase (.Name x p) name X.env (eval (.Name x p) X.env) = eval (.Name x p) X.env := by rfl)
    (hfew : ((backTo cpos (starEach (e :: es) X.env)).all (fun x => !x.1) && (backToKw cpos (keywordEach [] X.env)).all (fun x => x.1.isSome)
      && decide ((e :: es).length + ([] : List Keyword).length + (if ([] : List Keyword).isEmpty then 0 else 1) < 30)) = true := by rfl)
    (hline : (apos.endLine == cpos.line) = true := by rfl) (hs : starEach (e :: es) X.env = (false, eval e X.env) :: starEach es X.env := by rfl) (hplain : (backTo cpos (starEach es X.env)).any (·.1) = false := by rfl) :
    SE X I W (.Call (.Attribute (.Name x p) name apos) (e :: es) [] cpos) (eMut k g fs) := by
  obtain ⟨t, q, m⟩ := h
  exact ⟨_, pe_bm PySem.F.plainAttrs_list slot hty hm hv q hbase hfew hline hs hplain, sem_mut hg m⟩
theorem se_mut0 (slot : Slot "list" name id) (hty : typeOf (.builtin id) = pure (.type "method_descriptor")) (hm : MtR X id r) (hg : MutS (bas X I) r g) (hv : PE X (.Name x p) (tVar k))
    (hbase : attributeBase (.Name x p) name X.env (eval (.Name x p) X.env) = eval (.Name x p) X.env := by rfl) (hline : (apos.endLine == cpos.line) = true := by rfl) :
    SE X I W (.Call (.Attribute (.Name x p) name apos) [] [] cpos) (eMut k g []) := by
  refine ⟨_, pe_bm0 PySem.F.plainAttrs_list slot hty hm hv hbase hline, ?_⟩
  exact sem_mut (t := fun σ H Q => Q [] H) hg fun F ρ σ H R Q h => h F H [] (Stp.refl _ _ _ _) (Live.refl _) R .nil
end
section
variable {B : Bas}
def appM : MSem := fun xs ds => match ds with
  | [d] => if xs.length < sizeLine then some (.non, xs ++ [d]) else none
  | _ => none
theorem mut_app : MutS B rAppend appM := by
  intro F H a us xs vs ds d xs' m hH hl hv e Q q
  unfold appM at e
  cases hv with
  | nil => cases e
  | cons h1 h2 =>
    cases h2 with
    | cons _ _ => cases e
    | nil =>
      dsimp only at e
      split at e
      · rename_i z
        cases e
        exact ⟨a, us, _, rfl, rfl, hH, by rw [hl.length]; exact z, q _ _ (hl.append (.cons h1 .nil)) .non⟩
      · cases e
def popM : MSem := fun xs ds => match ds with
  | [] => match xs[xs.length - 1]? with
    | some d => some (d, xs.dropLast)
    | none => none
  | [.int i] => if -(2 ^ 63) ≤ i ∧ i < 2 ^ 63 then (match ixN xs.length i with
    | some j => (match xs[j]? with
      | some d => some (d, xs.eraseIdx j)
      | none => none)
    | none => none) else none
  | _ => none
theorem mut_pop : MutS B (fun x vs H Q => rPop x vs H Q ∨ rPopAt x vs H Q) popM := by
  intro F H a us xs vs ds d xs' m hH hl hv e Q q
  unfold popM at e
  cases hv with
  | nil =>
    dsimp only at e
    cases w : xs[xs.length - 1]? with
    | none => rw [w] at e; cases e
    | some d' =>
      rw [w] at e; cases e
      obtain ⟨v, h1, h2⟩ := hl.get w
      exact .inl ⟨a, us, v, rfl, rfl, hH, by rw [hl.length]; exact h1, q _ _ hl.dropLast h2⟩
  | cons h1 h2 =>
    cases h2 with
    | cons _ _ => split at e <;> simp_all
    | nil =>
      split at e
      · simp_all
      · rename_i i heq
        cases heq
        cases h1
        split at e
        · rename_i z
          cases w : ixN xs.length i with
          | none => rw [w] at e; cases e
          | some j =>
            rw [w] at e
            dsimp only at e
            cases w2 : xs[j]? with
            | none => rw [w2] at e; cases e
            | some d' =>
              rw [w2] at e; cases e
              obtain ⟨v, h1, h2⟩ := hl.get w2
              exact .inr ⟨a, us, i, j, v, rfl, rfl, hH, z.1, z.2, by rw [hl.length]; exact (ixN_seq w).1, h1, q _ _ (hl.erase j) h2⟩
        · cases e
      · cases e
end
theorem mt_popA {X : Cx} : MtR X "list.pop" (fun x vs H Q => rPop x vs H Q ∨ rPopAt x vs H Q) := MtR.or mt_pop mt_popAt
/-! ### x[i] = e -/
def sI (k : Nat) (fi fv : ESem) : SSem := fun ρ => (eF fv ρ).sbind fun d ρ1 => match ρ1[k]? with
  | some (some (.ow _ (.lst _))) => (fi ρ1).sbind fun ri ρ2 => (match ri, ρ2[k]? with
    | .fz (.int i), some (some (.ow b (.lst xs))) => (match ixN xs.length i with
      | some j => .nx (ρ2.set k (some (.ow b (.lst (xs.set j d)))))
      | none => .no)
    | _, _ => .no)
  | _ => .no
section
variable {X : Cx} {I : Addr → Value → Option Addr → Prop} {W : WX} {e i : Expr} {fi fv : ESem} {k : Nat} {x : Str} {p pos pos' : Pos}
theorem ss_item (hv : PE X (.Name x p) (tVar k)) (h : SE X I W e fv) (hi : SE X I W i fi)
    (ha : ∀ v, assign (.Subscript (.Name x p) i pos') X.env v = (do
      let ov ← holding [v] (eval (.Name x p) X.env)
      let iv ← holding [v, ov] (eval i X.env)
      standAt pos'
      holding [v, ov, iv] (setItem ov iv v)
      release [v, ov, iv] []) := by intro _; rfl)
    (hs : swapsWithSole [.Subscript (.Name x p) i pos'] e pos.line X.env = pure false := by rfl) (hw : swappedStores [.Subscript (.Name x p) i pos'] e X.env = pure none := by rfl)
    (h1 : (assignEach [.Subscript (.Name x p) i pos'] X.env).map (·.2) = [assign (.Subscript (.Name x p) i pos') X.env] := by rfl) : SS X I W (.Assign [.Subscript (.Name x p) i pos'] e pos) (sI k fi fv) := by
  obtain ⟨t, q, m⟩ := h
  obtain ⟨u, r, n⟩ := hi
  refine ⟨_, ps_asg q (pg_sub hv r set_list ha) hs hw h1, fun F ρ σ H R E hq => ?_⟩
  rw [sI, Out.OK_sbind] at hq
  refine m.frz F ρ σ H R _ (hq.imp (fun d ρ1 hq F1 H1 v S1 L1 R1 r1 => ?_) fun _ _ _ z => PostX.ofZ z)
  have key : ∀ (v' : V), σ[k]? = some (some v') → ((fi ρ1).sbind fun ri ρ2 => (match ri, ρ2[k]? with
    | .fz (.int i), some (some (.ow b (.lst xs))) => (match ixN xs.length i with
      | some j => .nx (ρ2.set k (some (.ow b (.lst (xs.set j d)))))
      | none => .no)
    | _, _ => .no)).OK (posts (bas X I) W F ρ σ H E) → gSub (tVar k) u rSetL v σ H1 E.nx := fun v' hv' hq => by
    rw [Out.OK_sbind] at hq
    refine ⟨v', hv', ?_⟩
    refine n F1 ρ1 σ H1 R1 _ (hq.imp (fun ri ρ2 hq F2 H2 w S2 L2 R2 r2 => ?_) fun _ _ _ z => (PostX.ofZ z).back S1)
    cases ri with
    | fz di =>
      cases di with
      | int i =>
        cases e3 : ρ2[k]? with
        | none => rw [e3] at hq; exact hq.elim
        | some o =>
          cases o with
          | none => rw [e3] at hq; exact hq.elim
          | some sv =>
            cases sv with
            | ow b o =>
              cases o with
              | ob c fs => rw [e3] at hq; exact hq.elim
              | lst xs =>
                rw [e3] at hq
                dsimp only at hq
                obtain ⟨v1, g1, a, e4, hf, us, hH, hl⟩ := R2.sl k _ e3
                rw [hv'] at g1; cases g1
                subst e4
                cases r2
                cases w : ixN xs.length i with
                | none => rw [w] at hq; exact hq.elim
                | some j =>
                  rw [w] at hq
                  refine ⟨a, us, i, j, rfl, rfl, hH, by rw [hl.length]; exact w, ?_⟩
                  obtain ⟨R3, S3⟩ := R2.mutate (o' := .lst (xs.set j d)) (u := .lst (us.set j v)) e3 hv' ⟨_, upd_same, RepL.set (r1.mono S2.mono) j hl⟩
                  exact hq F2 σ _ ((S1.trans S2).trans S3) R3
            | _ => rw [e3] at hq; exact hq.elim
      | _ => exact hq.elim
    | _ => exact hq.elim
  cases e1 : ρ1[k]? with
  | none => rw [e1] at hq; exact hq.elim
  | some o =>
    cases o with
    | none => rw [e1] at hq; exact hq.elim
    | some sv =>
      obtain ⟨v1, g1, _⟩ := R1.sl k sv e1
      cases sv with
      | ow b o =>
        cases o with
        | ob c fs => rw [e1] at hq; exact hq.elim
        | lst xs => rw [e1] at hq; exact key v1 g1 hq
      | _ => rw [e1] at hq; exact hq.elim
end
end DL
end
section
/-! D10: while, for. -/
namespace DL
open PySem PySem.Spec L2

/-! ### while -/
def whN (c : CSem) (b : SSem) : Nat → Env → Option SOut
  | 0, _ => none
  | n + 1, ρ => match c ρ with
    | .ok true ρ1 => (match b ρ1 with
      | .nx ρ2 => whN c b n ρ2
      | .ct ρ2 => whN c b n ρ2
      | .bk ρ2 => some (.nx ρ2)
      | .rt r ρ2 => some (.rt r ρ2)
      | .ex x fs ρ2 => some (.ex x fs ρ2)
      | .no => some .no)
    | .ok false ρ1 => some (.nx ρ1)
    | .ex x fs ρ1 => some (.ex x fs ρ1)
    | .no => some .no
theorem whN_mono {c : CSem} {b : SSem} : ∀ {n : Nat} {ρ : Env} {o : SOut} (m : Nat), whN c b n ρ = some o → whN c b (n + m) ρ = some o
  | 0, _, _, _, h => by cases h
  | n + 1, ρ, o, m, h => by
    rw [show n + 1 + m = (n + m) + 1 by omega]
    simp only [whN] at h ⊢
    cases e : c ρ with
    | no => rw [e] at h; exact h
    | ex x fs ρ1 => rw [e] at h; exact h
    | ok k ρ1 =>
      rw [e] at h
      cases k with
      | false => exact h
      | true =>
        dsimp only at h ⊢
        cases e2 : b ρ1 with
        | nx ρ2 => rw [e2] at h; exact whN_mono m h
        | ct ρ2 => rw [e2] at h; exact whN_mono m h
        | bk ρ2 => rw [e2] at h; exact h
        | rt r ρ2 => rw [e2] at h; exact h
        | ex x fs ρ2 => rw [e2] at h; exact h
        | no => rw [e2] at h; exact h
open Classical in
noncomputable def sWh (c : CSem) (b : SSem) : SSem := fun ρ => if h : ∃ p : Nat × SOut, whN c b p.1 ρ = some p.2 then (Classical.choose h).2 else .no
theorem sWh_of {c : CSem} {b : SSem} {n : Nat} {ρ : Env} {o : SOut} (h : whN c b n ρ = some o) : sWh c b ρ = o := by
  have hx : ∃ p : Nat × SOut, whN c b p.1 ρ = some p.2 := ⟨(n, o), h⟩
  unfold sWh
  rw [dif_pos hx]
  have h1 := Classical.choose_spec hx
  have h2 := whN_mono n h1
  have h3 := whN_mono (Classical.choose hx).1 h
  rw [Nat.add_comm] at h3
  rw [h2] at h3
  exact Option.some.inj h3
theorem sWh_some {c : CSem} {b : SSem} {ρ : Env} (h : sWh c b ρ ≠ .no) : ∃ n, whN c b n ρ = some (sWh c b ρ) := by
  unfold sWh at h ⊢
  split
  · rename_i hx
    exact ⟨_, Classical.choose_spec hx⟩
  · rename_i hx
    rw [dif_neg hx] at h
    exact absurd rfl h
/-- one turn -/
theorem sWh_eq (c : CSem) (b : SSem) (ρ : Env) : sWh c b ρ = (c ρ).sbind fun k ρ1 => if k = true then (match b ρ1 with
    | .nx ρ2 => sWh c b ρ2
    | .ct ρ2 => sWh c b ρ2
    | .bk ρ2 => .nx ρ2
    | .rt r ρ2 => .rt r ρ2
    | .ex x fs ρ2 => .ex x fs ρ2
    | .no => .no) else .nx ρ1 := by
  have nop : ∀ ρ2, (∀ n, whN c b n ρ2 = none) → sWh c b ρ2 = .no := fun ρ2 h => by
    unfold sWh
    rw [dif_neg]
    rintro ⟨p, hp⟩
    rw [h] at hp; cases hp
  have step : ∀ ρ2, (∀ n, whN c b (n + 1) ρ = whN c b n ρ2) → sWh c b ρ = sWh c b ρ2 := fun ρ2 h => by
    by_cases hx : ∃ n o, whN c b n ρ2 = some o
    · obtain ⟨n, o, ho⟩ := hx
      rw [sWh_of ho, sWh_of (n := n + 1) (by rw [h]; exact ho)]
    · have hn : ∀ n, whN c b n ρ2 = none := fun n => by
        cases q : whN c b n ρ2 with
        | none => rfl
        | some o => exact absurd ⟨n, o, q⟩ hx
      rw [nop ρ2 hn, nop ρ fun n => ?_]
      cases n with
      | zero => rfl
      | succ n => rw [h]; exact hn n
  cases e : c ρ with
  | no => exact sWh_of (n := 1) (by simp only [whN, e]; rfl)
  | ex x fs ρ1 => exact sWh_of (n := 1) (by simp only [whN, e]; rfl)
  | ok k ρ1 =>
    cases k with
    | false => exact sWh_of (n := 1) (by simp only [whN, e]; rfl)
    | true =>
      simp only [Out.sbind, if_true]
      cases e2 : b ρ1 with
      | nx ρ2 => exact step ρ2 fun n => by simp only [whN, e, e2]
      | ct ρ2 => exact step ρ2 fun n => by simp only [whN, e, e2]
      | bk ρ2 => exact sWh_of (n := 1) (by simp only [whN, e, e2])
      | rt r ρ2 => exact sWh_of (n := 1) (by simp only [whN, e, e2])
      | ex x fs ρ2 => exact sWh_of (n := 1) (by simp only [whN, e, e2])
      | no => exact sWh_of (n := 1) (by simp only [whN, e, e2])
section
variable {X : Cx} {I : Addr → Value → Option Addr → Prop} {W : WX} {c : Expr} {body : List Stmt} {cf : CSem} {g : SSem} {pos : Pos}
theorem ss_while (hp : PassesOwn (model X.prog X.w) X.A X.env X.xe) (hc : SC X I W c cf) (hb : SSs X I W body g) : SS X I W (.While c body [] pos) (sWh cf g) := by
  obtain ⟨t, p, m⟩ := hc
  obtain ⟨u, q, n⟩ := hb
  refine ⟨_, ps_while hp p q, fun F ρ σ H R E hq => ?_⟩
  have hne : sWh cf g ρ ≠ .no := fun z => by rw [z] at hq; exact hq.elim
  obtain ⟨n0, h0⟩ := sWh_some hne
  refine ⟨fun k σ' H' => ∃ F' ρ' o, Stp F ρ σ H F' ρ' σ' H' ∧ Rel (bas X I) F' ρ' σ' H' ∧ whN cf g k ρ' = some o ∧ o.OK (posts (bas X I) W F ρ σ H E), ⟨n0, F, ρ, _, Stp.refl _ _ _ _, R, h0, hq⟩, ?_⟩
  rintro k σ1 H1 ⟨F1, ρ1, o, S1, R1, ho, hk⟩
  cases k with
  | zero => cases ho
  | succ k =>
    simp only [whN] at ho
    refine m F1 ρ1 σ1 H1 R1 _ ?_
    cases e : cf ρ1 with
    | no => rw [e] at ho; cases ho; exact hk.elim
    | ex x fs ρ2 => rw [e] at ho; cases ho; exact PostX.ofZ (PostZ.back S1 hk)
    | ok b ρ2 =>
      rw [e] at ho
      refine fun F2 H2 S2 _ R2 => ?_
      cases b with
      | false => rw [if_neg Bool.false_ne_true]; cases ho; exact hk F2 σ1 H2 (S1.trans S2) R2
      | true =>
        rw [if_pos rfl]
        dsimp only at ho
        refine ⟨fun σ' H' => ∃ F' ρ' o, Stp F ρ σ H F' ρ' σ' H' ∧ Rel (bas X I) F' ρ' σ' H' ∧ whN cf g k ρ' = some o ∧ o.OK (posts (bas X I) W F ρ σ H E), fun σ' H' h => ⟨k, Nat.lt_succ_self k, h⟩, ?_⟩
        have S12 := S1.trans S2
        refine n F2 ρ2 σ1 H2 R2 _ ?_
        cases e2 : g ρ2 with
        | nx ρ3 => rw [e2] at ho; exact fun F3 σ3 H3 S3 R3 => ⟨F3, ρ3, o, S12.trans S3, R3, ho, hk⟩
        | ct ρ3 => rw [e2] at ho; exact fun F3 σ3 H3 S3 R3 => ⟨F3, ρ3, o, S12.trans S3, R3, ho, hk⟩
        | bk ρ3 => rw [e2] at ho; cases ho; exact PostN.back S12 hk
        | rt r ρ3 => rw [e2] at ho; cases ho; exact PostR.back S12 hk
        | ex x fs ρ3 => rw [e2] at ho; cases ho; exact PostZ.back S12 hk
        | no => rw [e2] at ho; cases ho; exact hk.elim
end

/-! ### targets -/
def TgS (B : Bas) (t : TG) (g : D → Env → Option Env) : Prop := ∀ (F0 : Hp) (ρ0 : Env) (σ0 : St) (H0 F : Hp) (ρ : Env) (σ : St) (H : Hp) (v : V) (d : D) (ρ' : Env), Rel B F ρ σ H → Stp F0 ρ0 σ0 H0 F ρ σ H → Rep B F v d → g d ρ = some ρ' → ∀ Q : St → Hp → Prop,
  (∀ σ', Rel B F ρ' σ' H → Stp F0 ρ0 σ0 H0 F ρ' σ' H → Q σ' H) → t v σ H Q
def ST (X : Cx) (I : Addr → Value → Option Addr → Prop) (e : Expr) (g : D → Env → Option Env) : Prop := ∃ t, PG X e t ∧ TgS (bas X I) t g
def tgN (i : Nat) : D → Env → Option Env := fun d ρ => some (ρ.set i (some (.fz d)))
def TgsS (B : Bas) (t : TGs) (g : List D → Env → Option Env) : Prop := ∀ (F0 : Hp) (ρ0 : Env) (σ0 : St) (H0 F : Hp) (ρ : Env) (σ : St) (H : Hp) (v : List V) (d : List D) (ρ' : Env), Rel B F ρ σ H → Stp F0 ρ0 σ0 H0 F ρ σ H → RepL B F v d → g d ρ = some ρ' → ∀ Q : St → Hp → Prop,
  (∀ σ', Rel B F ρ' σ' H → Stp F0 ρ0 σ0 H0 F ρ' σ' H → Q σ' H) → t v σ H Q
def STs (X : Cx) (I : Addr → Value → Option Addr → Prop) (es : List Expr) (g : List D → Env → Option Env) : Prop := ∃ t, PGs X es t ∧ TgsS (bas X I) t g
def tgNil : List D → Env → Option Env := fun ds ρ => if ds.isEmpty then some ρ else none
def tgCons (g : D → Env → Option Env) (gs : List D → Env → Option Env) : List D → Env → Option Env := fun ds ρ => match ds with
  | d :: r => (match g d ρ with | some ρ1 => gs r ρ1 | none => none)
  | [] => none
def tgT (n : Nat) (gs : List D → Env → Option Env) : D → Env → Option Env := fun d ρ => match d with
  | .tup ds => if ds.length = n then gs ds ρ else none
  | _ => none
section
variable {X : Cx} {I : Addr → Value → Option Addr → Prop} {e : Expr} {es : List Expr} {pos : Pos}
theorem st_name {i : Nat} {x : Str} (h : PG X (.Name x pos) (gName i)) : ST X I (.Name x pos) (tgN i) := ⟨_, h, fun F0 ρ0 σ0 H0 F ρ σ H v d ρ' R S r e Q q => by
  cases e
  obtain ⟨R2, S2⟩ := R.put (i := i) (sv := .fz d) S r (fun z => nomatch z)
  exact q _ R2 S2⟩
theorem sts_nil : STs X I [] tgNil := ⟨_, pgs_nil, fun F0 ρ0 σ0 H0 F ρ σ H v d ρ' R S r e Q q => by
  cases r with
  | nil => simp only [tgNil] at e; cases e; exact ⟨rfl, q σ R S⟩
  | cons _ _ => simp only [tgNil] at e; cases e⟩
theorem sts_cons {g : D → Env → Option Env} {gs : List D → Env → Option Env} (h : ST X I e g) (k : STs X I es gs) (hs : (assignEach (e :: es) X.env).map (·.2) = assign e X.env :: (assignEach es X.env).map (·.2) := by rfl) : STs X I (e :: es) (tgCons g gs) := by
  obtain ⟨t, p, m⟩ := h
  obtain ⟨u, q, n⟩ := k
  refine ⟨_, pgs_cons p q hs, fun F0 ρ0 σ0 H0 F ρ σ H v d ρ' R S r e Q hq => ?_⟩
  cases r with
  | nil => simp only [tgCons] at e; cases e
  | @cons v1 d1 vs ds r1 r2 =>
    simp only [tgCons] at e
    cases w : g d1 ρ with
    | none => rw [w] at e; cases e
    | some ρ1 =>
      rw [w] at e
      refine ⟨v1, vs, rfl, m F0 ρ0 σ0 H0 F ρ σ H v1 d1 ρ1 R S r1 w _ fun σ1 R1 S1 => ?_⟩
      exact n F0 ρ0 σ0 H0 F ρ1 σ1 H vs ds ρ' R1 S1 r2 e Q hq
theorem st_tup {k n : Nat} {gs : List D → Env → Option Env} (hc : X.calm = true) (h : STs X I es gs) (hn : (assignEach es X.env).length = n := by rfl) (hst : (assignEach es X.env).findIdx? (·.1) = none := by rfl) : ST X I (.Tuple es k pos) (tgT n gs) := by
  obtain ⟨t, p, m⟩ := h
  refine ⟨_, pg_tup hc p hn hst, fun F0 ρ0 σ0 H0 F ρ σ H v d ρ' R S r e Q hq => ?_⟩
  cases r with
  | tup h1 l1 =>
    simp only [tgT] at e
    split at e
    · rename_i z
      exact ⟨_, _, rfl, sqt_mono R.ext h1, by rw [l1.length]; exact z, m F0 ρ0 σ0 H0 F ρ σ H _ _ ρ' R S l1 e Q hq⟩
    · cases e
  | _ => simp only [tgT] at e; cases e
end

/-! ### for -/
def forL (tg : D → Env → Option Env) (b : SSem) : List D → Env → SOut
  | [], ρ => .nx ρ
  | x :: r, ρ => match tg x ρ with
    | some ρ0 => (match b ρ0 with
      | .nx ρ1 => forL tg b r ρ1
      | .ct ρ1 => forL tg b r ρ1
      | .bk ρ1 => .nx ρ1
      | .rt v ρ1 => .rt v ρ1
      | .ex c fs ρ1 => .ex c fs ρ1
      | .no => .no)
    | none => .no
theorem for_any {J : It} {g : TG} {tb : TS} {D : Ends} {σ : St} {H : Hp} (n : Nat) (Pv : Nat → St → Hp → Prop) (h0 : Pv 0 σ H) (hgo : ∀ i σ H, i < n → Pv i σ H → J.go i H) (hstop : ∀ σ H, Pv n σ H → J.stop n H)
    (hs : ∀ i σ H x H', i < n → Pv i σ H → J.yld i H x H' → g x σ H' fun σ2 H2 => tb { D with nx := Pv (i + 1), ct := Pv (i + 1), bk := D.nx } σ2 H2) (hd : ∀ σ H, Pv n σ H → D.nx σ H) :
    ∃ W : Nat → Nat → St → Hp → Prop, (∃ m, W 0 m σ H) ∧ ∀ i m σ H, W i m σ H →
      (J.stop i H ∧ D.nx σ H) ∨ (J.go i H ∧ ∃ N : St → Hp → Prop, (∀ σ' H', N σ' H' → ∃ m', m' < m ∧ W (i + 1) m' σ' H') ∧ ∀ x H', J.yld i H x H' → g x σ H' fun σ2 H2 => tb { D with nx := N, ct := N, bk := D.nx } σ2 H2) := by
  refine ⟨fun i m σ H => m = n - i ∧ i ≤ n ∧ Pv i σ H, ⟨n, by simp, Nat.zero_le _, h0⟩, ?_⟩
  rintro i m σ H ⟨rfl, hi, p⟩
  by_cases hlt : i < n
  · exact .inr ⟨hgo i σ H hlt p, Pv (i + 1), fun σ' H' p' => ⟨n - (i + 1), by omega, rfl, hlt, p'⟩, fun x H' y => hs i σ H x H' hlt p y⟩
  · have e : i = n := by omega
    subst e
    exact .inl ⟨hstop σ H p, hd σ H p⟩
/-- the loop's turns over data: J gives the items ds, whatever the body does -/
theorem for_data {B : Bas} {W : WX} {J : It} {t : TG} {u : TS} {tg : D → Env → Option Env} {g : SSem} {F : Hp} {ρ : Env} {σ : St} {H : Hp} {E : Ends} (ht : TgS B t tg) (hg : SemS B W u g) (R : Rel B F ρ σ H) (ds : List D)
    (hgo : ∀ i F' ρ' σ' H', i < ds.length → Stp F ρ σ H F' ρ' σ' H' → Rel B F' ρ' σ' H' → J.go i H') (hstop : ∀ F' ρ' σ' H', Stp F ρ σ H F' ρ' σ' H' → Rel B F' ρ' σ' H' → J.stop ds.length H')
    (hy : ∀ i F' ρ' σ' H' x H'', Stp F ρ σ H F' ρ' σ' H' → Rel B F' ρ' σ' H' → J.yld i H' x H'' → H'' = H' ∧ ∀ d, ds[i]? = some d → Rep B F' x d)
    (hq : (forL tg g ds ρ).OK (posts B W F ρ σ H E)) :
    ∃ W' : Nat → Nat → St → Hp → Prop, (∃ m, W' 0 m σ H) ∧ ∀ i m σ H, W' i m σ H →
      (J.stop i H ∧ E.nx σ H) ∨ (J.go i H ∧ ∃ N : St → Hp → Prop, (∀ σ' H', N σ' H' → ∃ m', m' < m ∧ W' (i + 1) m' σ' H') ∧ ∀ x H', J.yld i H x H' → t x σ H' fun σ2 H2 => u { E with nx := N, ct := N, bk := E.nx } σ2 H2) := by
  refine for_any ds.length (fun i σ' H' => ∃ F' ρ', Stp F ρ σ H F' ρ' σ' H' ∧ Rel B F' ρ' σ' H' ∧ (forL tg g (ds.drop i) ρ').OK (posts B W F ρ σ H E)) ⟨F, ρ, Stp.refl _ _ _ _, R, hq⟩
    (fun i σ' H' hi ⟨F', ρ', S', R', _⟩ => hgo i F' ρ' σ' H' hi S' R') (fun σ' H' ⟨F', ρ', S', R', _⟩ => hstop F' ρ' σ' H' S' R') (fun i σ1 H1 x H2 hi ⟨F1, ρ1, S1, R1, h1⟩ y => ?_) fun σ' H' ⟨F', ρ', S', R', h'⟩ => ?_
  · obtain ⟨e, hx⟩ := hy i F1 ρ1 σ1 H1 x H2 S1 R1 y
    subst e
    rw [List.drop_eq_getElem_cons hi] at h1
    simp only [forL] at h1
    cases w : tg ds[i] ρ1 with
    | none => rw [w] at h1; exact h1.elim
    | some ρ2 =>
      rw [w] at h1
      dsimp only at h1
      refine ht F ρ σ H F1 ρ1 σ1 H2 x ds[i] ρ2 R1 S1 (hx _ (List.getElem?_eq_getElem hi)) w _ fun σ2 R2 S2 => ?_
      refine hg F1 ρ2 σ2 H2 R2 _ ?_
      cases w2 : g ρ2 with
      | nx ρ3 => rw [w2] at h1; exact fun F3 σ3 H3 S3 R3 => ⟨F3, ρ3, S2.trans S3, R3, h1⟩
      | ct ρ3 => rw [w2] at h1; exact fun F3 σ3 H3 S3 R3 => ⟨F3, ρ3, S2.trans S3, R3, h1⟩
      | bk ρ3 => rw [w2] at h1; exact PostN.back S2 h1
      | rt v ρ3 => rw [w2] at h1; exact PostR.back S2 h1
      | ex c fs ρ3 => rw [w2] at h1; exact PostZ.back S2 h1
      | no => rw [w2] at h1; exact h1.elim
  · rw [List.drop_eq_nil_of_le (Nat.le_refl _)] at h'
    exact h' F' σ' H' S' R'

/-! ### over a list, a tuple, a text -/
def rIter (K : PySem.W.Frag) (x : V) (H : Hp) (R : It → Hp → Prop) : Prop :=
  (∃ a, x = .ref a ∧ (∃ xs, SqL K H a xs) ∧ R (Itl K a) H) ∨ (∃ a, x = .ref a ∧ (∃ xs, SqT K H a xs) ∧ R (Itt K a) H) ∨ ∃ z, x = .str z ∧ R (Its z) H
def iAny (K : PySem.W.Frag) (te : TE) : TI := fun σ H R => te σ H fun x H1 => rIter K x H1 R
theorem pi_any {X : Cx} {tg e : Expr} {te : TE} (he : PE X e te) : PI X tg e (iAny X.K te) := by
  refine ⟨fun pins s σ H R I h => ?_⟩
  refine thn (he.run pins s σ H _ I h) fun v s1 ⟨x, H1, I1, r1, q1⟩ => ?_
  rcases q1 with ⟨a, e, ⟨xs, hq⟩, q⟩ | ⟨a, e, ⟨xs, hq⟩, q⟩ | ⟨z, e, q⟩
  · subst e
    cases r1
    obtain ⟨its, rv, p, hz⟩ := I1.list hq
    refine wpAny_pyIter_list p.isList ?_
    refine ⟨s1.heap.objs.size, [s1.heap.objs.size], _, _, H1, rfl, I1.kept (t' := s1.toks) fun b o e => Heap.get?_push_of_some _ e, turn_list a _, ⟨_, Heap.get?_push_size _ rfl, rfl, rfl⟩, fun b hb => ?_, q⟩
    have e : b = s1.heap.objs.size := by simpa using hb
    subst e
    exact I1.fpOk (Nat.le_refl _) (I1.hok.fresh (Nat.le_refl _))
  · subst e
    cases r1
    obtain ⟨its, rv, p, hz⟩ := I1.tuple hq
    refine wpAny_pyIter_tuple (show s1.heap.IsTuple a its.toArray from p) ?_
    refine ⟨s1.heap.objs.size, [s1.heap.objs.size], _, _, H1, rfl, I1.kept (t' := s1.toks) fun b o e => Heap.get?_push_of_some _ e, turn_tuple a _, ⟨_, Heap.get?_push_size _ rfl, rfl, rfl⟩, fun b hb => ?_, q⟩
    have e : b = s1.heap.objs.size := by simpa using hb
    subst e
    exact I1.fpOk (Nat.le_refl _) (I1.hok.fresh (Nat.le_refl _))
  · subst e
    obtain ⟨t, rfl⟩ := r1
    cases ha : z.cps.all (· < 128)
    · exact wpAny_pyIter_wide ha (pi_one (tk := s1.toks) I1 _ (turn_str _ z t "str_iterator" (.inr rfl)) ⟨_, Heap.get?_push_size _ rfl, rfl, rfl⟩ q)
    · exact wpAny_pyIter_ascii ha (pi_one (tk := s1.toks) I1 _ (turn_str _ z t "str_ascii_iterator" (.inl rfl)) ⟨_, Heap.get?_push_size _ rfl, rfl, rfl⟩ q)
end DL
end
section
/-! D11: for over data that the body may not change; over a range. -/
namespace DL
open PySem PySem.Spec L2

def itemsD : D → Option (List D)
  | .lst ds => some ds
  | .tup ds => some ds
  | .scr ns => some (ns.map D.int)
  | .str z => some (z.cps.toList.map fun c => .str ⟨#[c]⟩)
  | _ => none
/-- what is walked stands still -/
theorem own_free {B : Bas} {F H : Hp} {ρ : Env} {σ : St} {a : Addr} {u : HO} (R : Rel B F ρ σ H) (h : F a = some u) (k : Nat) : ¬ OwnAt ρ σ k a := fun ⟨b, o, h1, h2⟩ => by
  obtain ⟨v, g1, a', e, g2, _⟩ := R.sl k _ h1
  rw [h2] at g1; cases g1; cases e
  rw [h] at g2; cases g2
theorem rd_keep {H H' : Hp} {a : Addr} {u : HO} (k : ∀ o, H a = some o → H' a = some o) (h : Rd H a u) : Rd H' a u := h.elim (fun h => .inl (k _ h)) fun ⟨o, h⟩ => .inr ⟨o, k _ h⟩
/-- a thing of the heap that no slot owns, or one of the written part -/
def Fixed (P : Prop) (H : Hp) (ρ : Env) (σ : St) (a : Addr) (u : HO) : Prop := (Rd H a u ∧ ∀ k, ¬ OwnAt ρ σ k a) ∨ P
def KList (K : PySem.W.Frag) (a : Addr) (xs : List V) : Prop := ∃ (o : Obj) (its : Array Value) (n : Nat), K.lookup a = some o ∧ o.cls = .type "list" ∧ o.dict = none ∧ o.data = .seq its n ∧ its.size ≤ sizeLine ∧ Vals xs its.toList
def KTup (K : PySem.W.Frag) (a : Addr) (xs : List V) : Prop := ∃ (o : Obj) (its : Array Value) (n : Nat), K.lookup a = some o ∧ o.cls = .type "tuple" ∧ o.data = .seq its n ∧ its.size ≤ sizeLine ∧ Vals xs its.toList
def StL (K : PySem.W.Frag) (H : Hp) (ρ : Env) (σ : St) (a : Addr) (xs : List V) : Prop := Fixed (KList K a xs) H ρ σ a (.lst xs)
def StT (K : PySem.W.Frag) (H : Hp) (ρ : Env) (σ : St) (a : Addr) (xs : List V) : Prop := Fixed (KTup K a xs) H ρ σ a (.tup xs)
theorem StL.sq {K : PySem.W.Frag} {F F' H H' : Hp} {ρ ρ' : Env} {σ σ' : St} {a : Addr} {xs : List V} (h : StL K H ρ σ a xs) (S : Stp F ρ σ H F' ρ' σ' H') : SqL K H' a xs := h.elim (fun ⟨h, n⟩ => .inl (rd_keep (fun o q => S.keep a o q n) h)) .inr
theorem StT.sq {K : PySem.W.Frag} {F F' H H' : Hp} {ρ ρ' : Env} {σ σ' : St} {a : Addr} {xs : List V} (h : StT K H ρ σ a xs) (S : Stp F ρ σ H F' ρ' σ' H') : SqT K H' a xs := h.elim (fun ⟨h, n⟩ => .inl (rd_keep (fun o q => S.keep a o q n) h)) .inr
def Still (ρ : Env) (σ : St) (H : Hp) (K : PySem.W.Frag) (x : V) (d : D) (B : Bas) (F : Hp) : Prop :=
  (∃ a xs ds, x = .ref a ∧ itemsD d = some ds ∧ StL K H ρ σ a xs ∧ RepL B F xs ds) ∨ (∃ a xs ds, x = .ref a ∧ itemsD d = some ds ∧ StT K H ρ σ a xs ∧ RepL B F xs ds) ∨ ∃ z, x = .str z ∧ d = .str z
/-- the turns, for each kind of thing -/
theorem for_still {X : Cx} {I : Addr → Value → Option Addr → Prop} {W : WX} {t : TG} {u : TS} {tg : D → Env → Option Env} {g : SSem} {F : Hp} {ρ : Env} {σ : St} {H : Hp} {E : Ends} {x : V} {d : D} {ds : List D} (ht : TgS (bas X I) t tg) (hg : SemS (bas X I) W u g) (R : Rel (bas X I) F ρ σ H)
    (hs : Still ρ σ H X.K x d (bas X I) F) (hd : itemsD d = some ds) (hq : (forL tg g ds ρ).OK (posts (bas X I) W F ρ σ H E)) :
    rIter X.K x H fun J H1 => ∃ W' : Nat → Nat → St → Hp → Prop, (∃ m, W' 0 m σ H1) ∧ ∀ i m σ H, W' i m σ H →
      (J.stop i H ∧ E.nx σ H) ∨ (J.go i H ∧ ∃ N : St → Hp → Prop, (∀ σ' H', N σ' H' → ∃ m', m' < m ∧ W' (i + 1) m' σ' H') ∧ ∀ x H', J.yld i H x H' → t x σ H' fun σ2 H2 => u { E with nx := N, ct := N, bk := E.nx } σ2 H2) := by
  rcases hs with ⟨a, xs, es, e, h0, h1, h2⟩ | ⟨a, xs, es, e, h0, h1, h2⟩ | ⟨z, e, h1⟩
  · rw [hd] at h0; cases h0
    subst e
    have st : ∀ {F' ρ' σ' H'}, Stp F ρ σ H F' ρ' σ' H' → SqL X.K H' a xs := fun S' => h1.sq S'
    have hlen := h2.length
    refine .inl ⟨a, rfl, ⟨xs, st (Stp.refl _ _ _ _)⟩, for_data ht hg R ds (fun i F' ρ' σ' H' hi S' R' => ?_) (fun F' ρ' σ' H' S' R' => ⟨xs, st S', by omega⟩) (fun i F' ρ' σ' H' y H'' S' R' hy => ?_) hq⟩
    · exact ⟨xs, xs[i]'(by omega), st S', by simp [show i < xs.length by omega]⟩
    · obtain ⟨e1, hy⟩ := hy
      refine ⟨e1, fun d' hd' => ?_⟩
      obtain ⟨v, w1, w2⟩ := h2.get hd'
      rw [hy xs (st S')] at w1
      cases w1
      exact w2.mono S'.mono
  · rw [hd] at h0; cases h0
    subst e
    have st : ∀ {F' ρ' σ' H'}, Stp F ρ σ H F' ρ' σ' H' → SqT X.K H' a xs := fun S' => h1.sq S'
    have hlen := h2.length
    refine .inr (.inl ⟨a, rfl, ⟨xs, st (Stp.refl _ _ _ _)⟩, for_data ht hg R ds (fun i F' ρ' σ' H' hi S' R' => ?_) (fun F' ρ' σ' H' S' R' => ⟨xs, st S', by omega⟩) (fun i F' ρ' σ' H' y H'' S' R' hy => ?_) hq⟩)
    · exact ⟨xs, xs[i]'(by omega), st S', by simp [show i < xs.length by omega]⟩
    · obtain ⟨e1, hy⟩ := hy
      refine ⟨e1, fun d' hd' => ?_⟩
      obtain ⟨v, w1, w2⟩ := h2.get hd'
      rw [hy xs (st S')] at w1
      cases w1
      exact w2.mono S'.mono
  · subst e; subst h1
    simp only [itemsD, Option.some.injEq] at hd
    subst hd
    have hlen : (z.cps.toList.map fun c => D.str ⟨#[c]⟩).length = z.cps.size := by simp
    refine .inr (.inr ⟨z, rfl, for_data ht hg R _ (fun i F' ρ' σ' H' hi S' R' => ?_) (fun F' ρ' σ' H' S' R' => ?_) (fun i F' ρ' σ' H' y H'' S' R' hy => ?_) hq⟩)
    · show i < z.cps.size
      rw [hlen] at hi; exact hi
    · show z.cps.size ≤ _
      rw [hlen]; exact Nat.le_refl _
    · obtain ⟨e1, c, hc, hv⟩ := hy
      refine ⟨e1, fun d' hd' => ?_⟩
      rw [List.getElem?_map] at hd'
      have hc' : z.cps.toList[i]? = some c := by simpa using hc
      rw [hc'] at hd'
      cases hd'
      subst hv
      exact .str _

/-! ### a slot's own list is locked while it is walked -/
def unl (k : Nat) (b : Bool) (ρ : Env) : Env := match ρ[k]? with
  | some (some (.lk o)) => ρ.set k (some (.ow b o))
  | _ => ρ
def SOut.onE (f : Env → Env) : SOut → SOut
  | .nx ρ => .nx (f ρ)
  | .rt r ρ => .rt r (f ρ)
  | .bk ρ => .bk (f ρ)
  | .ct ρ => .ct (f ρ)
  | .ex c fs ρ => .ex c fs (f ρ)
  | .no => .no
theorem lock_rel {B : Bas} {F H : Hp} {ρ : Env} {σ : St} {k : Nat} {b : Bool} {o : OB} (R : Rel B F ρ σ H) (h : ρ[k]? = some (some (.ow b o))) : Rel B F (ρ.set k (some (.lk o))) σ H := by
  have old : ∀ (j : Nat) (s : SV), (ρ.set k (some (.lk o)))[j]? = some (some s) → (k = j ∧ s = .lk o) ∨ (k ≠ j ∧ ρ[j]? = some (some s)) := fun j s q => by
    rcases get_set q with ⟨e, z⟩ | ⟨e, z⟩
    · injection z with z; exact .inl ⟨e, z⟩
    · exact .inr ⟨e, z⟩
  refine ⟨R.ext, by rw [List.length_set]; exact R.len, fun j s q => ?_, fun i j a q1 q2 => ?_⟩
  · rcases old j s q with ⟨e, z⟩ | ⟨_, z⟩
    · subst e; subst z
      obtain ⟨v, g1, g2⟩ := R.sl k _ h
      exact ⟨v, g1, g2⟩
    · exact R.sl j s z
  · obtain ⟨b', o1, w1, w2⟩ := q1
    rcases old i _ w1 with ⟨_, z⟩ | ⟨_, w1⟩
    · cases z
    · refine R.sep i j a ⟨b', o1, w1, w2⟩ ?_
      obtain ⟨s, g1, g2, g3⟩ := q2
      rcases old j s g1 with ⟨e, z⟩ | ⟨_, z⟩
      · subst e; exact ⟨_, h, rfl, g3⟩
      · exact ⟨s, z, g2, g3⟩
theorem unlock {B : Bas} {F F' H H' : Hp} {ρ ρ' : Env} {σ σ' : St} {k : Nat} {b : Bool} {o : OB} (R : Rel B F ρ σ H) (h : ρ[k]? = some (some (.ow b o))) (S : Stp F (ρ.set k (some (.lk o))) σ H F' ρ' σ' H') (R' : Rel B F' ρ' σ' H') :
    Stp F ρ σ H F' (unl k b ρ') σ' H' ∧ Rel B F' (unl k b ρ') σ' H' := by
  have old : ∀ (j : Nat) (s : SV), (ρ.set k (some (.lk o)))[j]? = some (some s) → (k = j ∧ s = .lk o) ∨ (k ≠ j ∧ ρ[j]? = some (some s)) := fun j s q => by
    rcases get_set q with ⟨e, z⟩ | ⟨e, z⟩
    · injection z with z; exact .inl ⟨e, z⟩
    · exact .inr ⟨e, z⟩
  have ownL : ∀ j a, OwnAt (ρ.set k (some (.lk o))) σ j a → OwnAt ρ σ j a := fun j a ⟨b', o1, w1, w2⟩ => by
    rcases old j _ w1 with ⟨_, z⟩ | ⟨_, z⟩
    · cases z
    · exact ⟨b', o1, z, w2⟩
  have hasL : ∀ j a, HasAt (ρ.set k (some (.lk o))) σ j a → HasAt ρ σ j a := fun j a ⟨s, w1, w2, w3⟩ => by
    rcases old j s w1 with ⟨e, z⟩ | ⟨_, z⟩
    · subst e; exact ⟨_, h, rfl, w3⟩
    · exact ⟨s, z, w2, w3⟩
  have own0 : ∀ (j : Nat) (b' : Bool) (o1 : OB) (a : Addr), (ρ'[j]? = some (some (.ow b' o1))) → σ'[j]? = some (some (.ref a)) → (b' = false ∧ H a = none) ∨ ∃ o0, ρ[j]? = some (some (.ow b' o0)) ∧ σ[j]? = some (some (.ref a)) := fun j b' o1 a w1 w2 => by
    rcases S.own j b' o1 a w1 w2 with q | ⟨o0, q1, q2⟩
    · exact .inl q
    · rcases old j _ q1 with ⟨_, z⟩ | ⟨_, z⟩
      · cases z
      · exact .inr ⟨o0, z, q2⟩
  have plain : (∀ o', ρ'[k]? ≠ some (some (.lk o'))) → Stp F ρ σ H F' ρ' σ' H' := fun hn => ⟨S.mono, fun a q => (S.newF a q).imp_right (Or.imp_right fun ⟨j, z⟩ => ⟨j, ownL j a z⟩), fun a w q hno => S.keep a w q fun j z => hno j (ownL j a z), S.dom, fun j a q => (S.has j a q).imp_right (hasL j a), own0,
    fun j o1 a w1 w2 => by
      obtain ⟨o0, q1, q2⟩ := S.lks j o1 a w1 w2
      rcases old j _ q1 with ⟨e, _⟩ | ⟨_, z⟩
      · subst e; exact absurd w1 (hn o1)
      · exact ⟨o0, z, q2⟩⟩
  unfold unl
  split
  · rename_i o' e
    obtain ⟨v, g1, a, ea, hf, hr⟩ := R'.sl k _ e
    subst ea
    have hlk : σ[k]? = some (some (.ref a)) := by
      obtain ⟨o0, _, q2⟩ := S.lks k o' a e g1
      exact q2
    have ownk : OwnAt ρ σ k a := ⟨b, o, h, hlk⟩
    obtain ⟨v0, w1, a0, w2, _, w3⟩ := R.sl k _ h
    rw [hlk] at w1; cases w1; cases w2
    obtain ⟨u0, hu0⟩ := w3.some
    have new : ∀ (j : Nat) (s : SV), (ρ'.set k (some (.ow b o')))[j]? = some (some s) → (k = j ∧ s = .ow b o') ∨ (k ≠ j ∧ ρ'[j]? = some (some s)) := fun j s q => by
      rcases get_set q with ⟨e, z⟩ | ⟨e, z⟩
      · injection z with z; exact .inl ⟨e, z⟩
      · exact .inr ⟨e, z⟩
    have hasN : ∀ j c, HasAt (ρ'.set k (some (.ow b o'))) σ' j c → HasAt ρ' σ' j c := fun j c ⟨s, q1, q2, q3⟩ => by
      rcases new j s q1 with ⟨e', z⟩ | ⟨_, z⟩
      · subst e'; exact ⟨_, e, rfl, q3⟩
      · exact ⟨s, z, q2, q3⟩
    -- no other slot has the address
    have only : ∀ j, HasAt ρ' σ' j a → k = j := fun j q => by
      rcases S.has j a q with z | z
      · rw [hu0] at z; cases z
      · exact R.sep k j a ownk (hasL j a z)
    refine ⟨⟨S.mono, fun c q => (S.newF c q).imp_right (Or.imp_right fun ⟨j, z⟩ => ⟨j, ownL j c z⟩), fun c w q hno => S.keep c w q fun j z => hno j (ownL j c z), S.dom, fun j c q => (S.has j c (hasN j c q)).imp_right (hasL j c), fun j b' o1 c q1 q2 => ?_, fun j o1 c q1 q2 => ?_⟩,
      ⟨R'.ext, by rw [List.length_set]; exact R'.len, fun j s q => ?_, fun i j c q1 q2 => ?_⟩⟩
    · rcases new j _ q1 with ⟨e', z⟩ | ⟨_, z⟩
      · subst e'; cases z
        rw [g1] at q2; cases q2
        exact .inr ⟨o, h, hlk⟩
      · exact own0 j b' o1 c z q2
    · rcases new j _ q1 with ⟨_, z⟩ | ⟨ne, z⟩
      · cases z
      · obtain ⟨o0, q3, q4⟩ := S.lks j o1 c z q2
        rcases old j _ q3 with ⟨e', _⟩ | ⟨_, z'⟩
        · exact absurd e' ne
        · exact ⟨o0, z', q4⟩
    · rcases new j s q with ⟨e', z⟩ | ⟨_, z⟩
      · subst e'; subst z; exact ⟨_, g1, a, rfl, hf, hr⟩
      · exact R'.sl j s z
    · obtain ⟨b', o1, w1, w2⟩ := q1
      have q2' := hasN j c q2
      rcases new i _ w1 with ⟨e', z⟩ | ⟨ne, z⟩
      · subst e'
        rw [g1] at w2; cases w2
        exact only j q2'
      · by_cases hj : k = j
        · subst hj
          obtain ⟨s, r1, r2, r3⟩ := q2'
          rw [g1] at r3; cases r3
          exact absurd (only i ⟨_, z, rfl, w2⟩) ne
        · exact R'.sep i j c ⟨b', o1, z, w2⟩ q2'
  · rename_i hn
    exact ⟨plain fun o' z => hn o' z, R'⟩
def sForB (tg : D → Env → Option Env) (b : SSem) (r : RV) (ds : List D) (ρ : Env) : SOut := match r with
  | .sl k => (match ρ[k]? with
    | some (some (.ow w o)) => (forL tg b ds (ρ.set k (some (.lk o)))).onE (unl k w)
    | _ => forL tg b ds ρ)
  | _ => forL tg b ds ρ
def sFor (src : ESem) (tg : D → Env → Option Env) (b : SSem) : SSem := fun ρ => (src ρ).sbind fun r ρ1 => match rd ρ1 r with
  | some d => (match itemsD d with
    | some ds => sForB tg b r ds ρ1
    | none => .no)
  | none => .no
section
variable {X : Cx} {I : Addr → Value → Option Addr → Prop} {W : WX} {it tgt : Expr} {body : List Stmt} {f : ESem} {tg : D → Env → Option Env} {g : SSem} {pos : Pos}
/-- the object that is walked stands still: plain data -/
theorem still_rep {B : Bas} {F H : Hp} {ρ : Env} {σ : St} {v : V} {d : D} {ds : List D} (R : Rel B F ρ σ H) (h : Rep B F v d) (e : itemsD d = some ds) : Still ρ σ H B.K v d B F := by
  have of_rd : ∀ {a : Addr} {u : HO}, Rd F a u → Rd H a u ∧ ∀ k, ¬ OwnAt ρ σ k a := fun h => ⟨rd_mono R.ext h, fun k => h.elim (fun h => own_free R h k) fun ⟨o, h⟩ => own_free R h k⟩
  cases h with
  | lst h1 l => cases e; exact .inl ⟨_, _, _, rfl, rfl, .inl (of_rd (.inl h1)), l⟩
  | str z => exact .inr (.inr ⟨z, rfl, rfl⟩)
  | tup h1 l => cases e; exact .inr (.inl ⟨_, _, _, rfl, rfl, h1.elim (fun h => .inl (of_rd h)) .inr, l⟩)
  | scr h1 => cases e; exact .inl ⟨_, _, _, rfl, rfl, h1.elim (fun h => .inl (of_rd h)) .inr, RepL.ints _⟩
  | _ => cases e
/-- .. a list that no slot holds, or that a slot holds locked -/
theorem still_obj {B : Bas} {F H : Hp} {ρ : Env} {σ : St} {a : Addr} {o : OB} {d : D} {ds : List D} (hr : RepO B F H a o) (n : ∀ k, ¬ OwnAt ρ σ k a) (e : o.d = some d) (e2 : itemsD d = some ds) : Still ρ σ H B.K (.ref a) d B F := by
  cases o with
  | ob c fs => cases e
  | lst es =>
    obtain ⟨xs, h1, l⟩ := hr
    cases e; cases e2
    exact .inl ⟨a, xs, _, rfl, rfl, .inl ⟨.inl h1, n⟩, l⟩
theorem ss_for (hp : PassesOwn (model X.prog X.w) X.A X.env X.xe) (hc : X.calm = true) (h : SE X I W it f) (ht : ST X I tgt tg) (hb : SSs X I W body g) (hs : ∀ x, foldedSetIterable it X.env x = pure x := by intro _; rfl) : SS X I W (.For tgt it body [] pos) (sFor f tg g) := by
  obtain ⟨t, p, m⟩ := h
  obtain ⟨u, q, n⟩ := ht
  obtain ⟨w, r, o⟩ := hb
  refine ⟨_, ps_for hp hc (pi_any p) q r hs, fun F ρ σ H R E hq => ?_⟩
  rw [sFor, Out.OK_sbind] at hq
  refine m F ρ σ H R _ (hq.imp (fun rv ρ1 hq F1 H1 v S1 L1 R1 r1 => ?_) fun _ _ _ z => PostX.ofZ z)
  cases e : rd ρ1 rv with
  | none => rw [e] at hq; exact hq.elim
  | some d =>
    simp only [e] at hq
    cases e2 : itemsD d with
    | none => rw [e2] at hq; exact hq.elim
    | some ds =>
      rw [e2] at hq
      dsimp only at hq
      have go : ∀ {ρ2 : Env}, Rel (bas X I) F1 ρ2 σ H1 → Still ρ2 σ H1 X.K v d (bas X I) F1 → ∀ E' : Ends, (forL tg g ds ρ2).OK (posts (bas X I) W F1 ρ2 σ H1 E') → rIter X.K v H1 fun J H1 => ∃ W' : Nat → Nat → St → Hp → Prop, (∃ m, W' 0 m σ H1) ∧ ∀ i m σ H, W' i m σ H →
          (J.stop i H ∧ E'.nx σ H) ∨ (J.go i H ∧ ∃ N : St → Hp → Prop, (∀ σ' H', N σ' H' → ∃ m', m' < m ∧ W' (i + 1) m' σ' H') ∧ ∀ x H', J.yld i H x H' → u x σ H' fun σ2 H2 => w { E' with nx := N, ct := N, bk := E'.nx } σ2 H2) :=
        fun R2 st E' h2 => for_still n o R2 st e2 h2
      cases rv with
      | fz d' => cases e; exact go R1 (still_rep R1 r1 e2) E (posts_back S1 hq)
      | fr ob =>
        obtain ⟨a, ea, _, _, ho, hn⟩ := r1
        subst ea
        exact go R1 (still_obj ho (fun k z => hn k z.has) e e2) E (posts_back S1 hq)
      | sl k =>
        obtain ⟨g1, sv, g2⟩ := r1
        obtain ⟨v', w1, w2⟩ := R1.sl k sv g2
        rw [g1] at w1; cases w1
        simp only [rd, g2] at e
        simp only [sForB, g2] at hq
        cases sv with
        | fz d' => cases e; exact go R1 (still_rep R1 w2 e2) E (posts_back S1 hq)
        | lk ob =>
          obtain ⟨a, ea, _, ho⟩ := w2
          subst ea
          refine go R1 (still_obj ho (fun j z => ?_) e e2) E (posts_back S1 hq)
          have z2 := R1.sep j k a z ⟨_, g2, rfl, g1⟩
          subst z2
          obtain ⟨b', o1, z3, _⟩ := z
          rw [g2] at z3; cases z3
        | ow b ob =>
          obtain ⟨a, ea, _, ho⟩ := w2
          subst ea
          have RL := lock_rel R1 g2
          have nL : ∀ j, ¬ OwnAt (ρ1.set k (some (.lk ob))) σ j a := fun j ⟨b', o1, z3, z4⟩ => by
            rcases get_set z3 with ⟨_, z5⟩ | ⟨z5, z6⟩
            · cases z5
            · exact z5 (R1.sep j k a ⟨b', o1, z6, z4⟩ ⟨_, g2, rfl, g1⟩).symm
          refine go RL (still_obj ho nL e e2) E ?_
          dsimp only at hq
          -- what is wanted behind the unlocking
          have back : ∀ {F' : Hp} {ρ' : Env} {σ' : St} {H' : Hp}, Stp F1 (ρ1.set k (some (.lk ob))) σ H1 F' ρ' σ' H' → Rel (bas X I) F' ρ' σ' H' → Stp F ρ σ H F' (unl k b ρ') σ' H' ∧ Rel (bas X I) F' (unl k b ρ') σ' H' := fun S' R' => by
            obtain ⟨s1, s2⟩ := unlock R1 g2 S' R'
            exact ⟨S1.trans s1, s2⟩
          cases ef : forL tg g ds (ρ1.set k (some (.lk ob))) with
          | nx ρ' => rw [ef] at hq; exact fun F' σ' H' S' R' => let ⟨s1, s2⟩ := back S' R'; hq F' σ' H' s1 s2
          | bk ρ' => rw [ef] at hq; exact fun F' σ' H' S' R' => let ⟨s1, s2⟩ := back S' R'; hq F' σ' H' s1 s2
          | ct ρ' => rw [ef] at hq; exact fun F' σ' H' S' R' => let ⟨s1, s2⟩ := back S' R'; hq F' σ' H' s1 s2
          | ex c fs ρ' => rw [ef] at hq; exact fun F' σ' H' cls dd S' R' x => let ⟨s1, s2⟩ := back S' R'; hq F' σ' H' cls dd s1 s2 x
          | no => rw [ef] at hq; exact hq.elim
          | rt r ρ' =>
            rw [ef] at hq
            refine fun F' σ' H' v' S' R' x => ?_
            obtain ⟨s1, s2⟩ := back S' R'
            refine hq F' σ' H' v' s1 s2 ?_
            cases r with
            | fz d => exact x
            | sl i => exact x
            | fr o1 =>
              obtain ⟨c, x1, x2, x3, x4⟩ := x
              refine ⟨c, x1, x2, x3, ?_⟩
              rcases x4 with x4 | ⟨j, o2, x4, x5⟩
              · exact .inl (S1.dom c x4)
              · rcases get_set x4 with ⟨_, z⟩ | ⟨_, z⟩
                · cases z
                · rcases S1.own j false o2 c z x5 with ⟨_, y⟩ | ⟨o3, y1, y2⟩
                  · exact .inl y
                  · exact .inr ⟨j, o3, y1, y2⟩
        | xn c fs => cases e
        | dd => cases e
/-! ### over range(..) -/
def rangeD (lo hi : Int) : List D := (List.range (hi - lo).toNat).map fun (i : Nat) => D.int (lo + (i : Int))
/-- the bounds of range(b), range(a, b) -/
def rngOf1 : List D → Option (Int × Int)
  | [.int j] => some (0, j)
  | _ => none
def rngOf2 : List D → Option (Int × Int)
  | [.int i, .int j] => some (i, j)
  | _ => none
def smallR (i j : Int) : Bool := decide (-(2 ^ 62) ≤ i) && (decide (i < 2 ^ 62) && (decide (-(2 ^ 62) ≤ j) && decide (j < 2 ^ 62)))
def sForR (rg : List D → Option (Int × Int)) (args : List ESem) (tg : D → Env → Option Env) (b : SSem) : SSem := fun ρ => (eL args ρ).sbind fun ds ρ1 => match rg ds with
  | some (i, j) => if smallR i j = true then forL tg b (rangeD i j) ρ1 else .no
  | none => .no
theorem for_rng {B : Bas} {W : WX} {t : TG} {u : TS} {tg : D → Env → Option Env} {g : SSem} {F : Hp} {ρ : Env} {σ : St} {H : Hp} {E : Ends} {i j : Int} (ht : TgS B t tg) (hg : SemS B W u g) (R : Rel B F ρ σ H) (hq : (forL tg g (rangeD i j) ρ).OK (posts B W F ρ σ H E)) :
    ∃ W' : Nat → Nat → St → Hp → Prop, (∃ m, W' 0 m σ H) ∧ ∀ k m σ H, W' k m σ H →
      ((Itr i (j - i).toNat).stop k H ∧ E.nx σ H) ∨ ((Itr i (j - i).toNat).go k H ∧ ∃ N : St → Hp → Prop, (∀ σ' H', N σ' H' → ∃ m', m' < m ∧ W' (k + 1) m' σ' H') ∧ ∀ x H', (Itr i (j - i).toNat).yld k H x H' → t x σ H' fun σ2 H2 => u { E with nx := N, ct := N, bk := E.nx } σ2 H2) := by
  have hlen : (rangeD i j).length = (j - i).toNat := by simp [rangeD]
  refine for_data ht hg R (rangeD i j) (fun k F' ρ' σ' H' hk S' R' => ?_) (fun F' ρ' σ' H' S' R' => ?_) (fun k F' ρ' σ' H' x H'' S' R' hy => ?_) hq
  · rw [hlen] at hk; exact hk
  · rw [hlen]; exact Nat.le_refl _
  · obtain ⟨e1, e2⟩ := hy
    refine ⟨e1, fun d hd => ?_⟩
    subst e2
    unfold rangeD at hd
    rw [List.getElem?_map] at hd
    cases w : (List.range (j - i).toNat)[k]? with
    | none => rw [w] at hd; cases hd
    | some c =>
      rw [w] at hd
      cases hd
      have := List.getElem?_eq_some_iff.mp w
      obtain ⟨h1, h2⟩ := this
      rw [List.getElem_range] at h2
      subst h2
      exact .int _
theorem ss_for1 {a : Expr} {p0 p1 : Pos} {fa : ESem} (hp : PassesOwn (model X.prog X.w) X.A X.env X.xe) (hc : X.calm = true) (hg : Gl X "range") (hm : X.mg "range" = none) (ha : SL X I W [a] (eL [fa])) (ht : ST X I tgt tg) (hb : SSs X I W body g)
    (hs1 : starEach [a] X.env = [(false, eval a X.env)] := by rfl) (hs : ∀ x, foldedSetIterable (.Call (.Name "range" p0) [a] [] p1) X.env x = pure x := by intro _; rfl) : SS X I W (.For tgt (.Call (.Name "range" p0) [a] [] p1) body [] pos) (sForR rngOf1 [fa] tg g) := by
  obtain ⟨t, p, m⟩ := ha
  obtain ⟨u, q, n⟩ := ht
  obtain ⟨w, r, o⟩ := hb
  refine ⟨_, ps_for hp hc (pi_range1 hg hm p hs1) q r hs, fun F ρ σ H R E hq => ?_⟩
  rw [sForR, Out.OK_sbind] at hq
  refine m F ρ σ H R _ (hq.imp (fun ds ρ1 hq F1 H1 vs S1 L1 R1 r1 => ?_) fun _ _ _ z => PostX.ofZ z)
  cases e : rngOf1 ds with
  | none => rw [e] at hq; exact hq.elim
  | some ij =>
    obtain ⟨i, j⟩ := ij
    simp only [e] at hq
    by_cases z : smallR i j = true
    · rw [if_pos z] at hq
      simp only [smallR, Bool.and_eq_true, decide_eq_true_eq] at z
      cases r1 with
      | nil => cases e
      | cons x1 x2 =>
        cases x2 with
        | nil =>
          cases x1 <;> simp only [rngOf1] at e <;> cases e
          refine ⟨_, rfl, z.2.2.1, z.2.2.2, ?_⟩
          have := for_rng (i := 0) (E := E) n o R1 (posts_back S1 hq)
          rwa [Int.sub_zero] at this
        | cons y1 y2 => cases x1 <;> cases e
    · rw [if_neg z] at hq; exact hq.elim
theorem ss_for2 {a b : Expr} {p0 p1 : Pos} {fa fb : ESem} (hp : PassesOwn (model X.prog X.w) X.A X.env X.xe) (hc : X.calm = true) (hg : Gl X "range") (hm : X.mg "range" = none) (ha : SL X I W [a, b] (eL [fa, fb])) (ht : ST X I tgt tg) (hb : SSs X I W body g)
    (hs1 : starEach [a, b] X.env = [(false, eval a X.env), (false, eval b X.env)] := by rfl) (hs2 : starEach [b] X.env = [(false, eval b X.env)] := by rfl) (hs : ∀ x, foldedSetIterable (.Call (.Name "range" p0) [a, b] [] p1) X.env x = pure x := by intro _; rfl) :
    SS X I W (.For tgt (.Call (.Name "range" p0) [a, b] [] p1) body [] pos) (sForR rngOf2 [fa, fb] tg g) := by
  obtain ⟨t, p, m⟩ := ha
  obtain ⟨u, q, n⟩ := ht
  obtain ⟨w, r, o⟩ := hb
  refine ⟨_, ps_for hp hc (pi_range2 hg hm p hs1 hs2) q r hs, fun F ρ σ H R E hq => ?_⟩
  rw [sForR, Out.OK_sbind] at hq
  refine m F ρ σ H R _ (hq.imp (fun ds ρ1 hq F1 H1 vs S1 L1 R1 r1 => ?_) fun _ _ _ z => PostX.ofZ z)
  cases e : rngOf2 ds with
  | none => rw [e] at hq; exact hq.elim
  | some ij =>
    obtain ⟨i, j⟩ := ij
    simp only [e] at hq
    by_cases z : smallR i j = true
    · rw [if_pos z] at hq
      simp only [smallR, Bool.and_eq_true, decide_eq_true_eq] at z
      cases r1 with
      | nil => cases e
      | cons x1 x2 =>
        cases x2 with
        | nil => cases x1 <;> cases e
        | cons y1 y2 =>
          cases y2 with
          | cons _ _ => cases x1 <;> cases y1 <;> cases e
          | nil =>
            cases x1 <;> cases y1 <;> simp only [rngOf2] at e <;> cases e
            exact ⟨_, _, rfl, ⟨z.1, z.2.1, z.2.2.1, z.2.2.2⟩, for_rng (E := E) n o R1 (posts_back S1 hq)⟩
    · rw [if_neg z] at hq; exact hq.elim
end
end DL
end
section
/-! D12: list comprehensions. -/
namespace DL
open PySem PySem.Spec L2

/-! ### one reading for all contexts -/
theorem uni_E {C : Type} {X : C → Cx} {B : Bas} {W : WX} {e : Expr} {f : ESem} (h : ∀ c, ∃ t, PE (X c) e t ∧ SemG B W t f (PostE B)) : ∃ t, (∀ c, PE (X c) e t) ∧ SemG B W t f (PostE B) := by
  refine ⟨fun σ H Q => ∀ c, Classical.choose (h c) σ H Q, fun c => ⟨fun pins s σ H Q I q => (Classical.choose_spec (h c)).1.run pins s σ H Q I (q c)⟩, fun F ρ σ H R Q hq c => (Classical.choose_spec (h c)).2 F ρ σ H R Q hq⟩
theorem uni_C {C : Type} {X : C → Cx} {B : Bas} {W : WX} {e : List Expr} {f : CSem} (h : ∀ c, ∃ t, PTs (X c) e t ∧ SemG B W t f (PostC B)) : ∃ t, (∀ c, PTs (X c) e t) ∧ SemG B W t f (PostC B) := by
  refine ⟨fun σ H Q => ∀ c, Classical.choose (h c) σ H Q, fun c => ⟨fun pins s σ H Q I q => (Classical.choose_spec (h c)).1.run pins s σ H Q I (q c)⟩, fun F ρ σ H R Q hq c => (Classical.choose_spec (h c)).2 F ρ σ H R Q hq⟩
theorem uni_T {C : Type} {X : C → Cx} {B : Bas} {e : Expr} {g : D → Env → Option Env} (h : ∀ c, ∃ t, PG (X c) e t ∧ TgS B t g) : ∃ t, (∀ c, PG (X c) e t) ∧ TgS B t g := by
  refine ⟨fun v σ H Q => ∀ c, Classical.choose (h c) v σ H Q, fun c => ⟨fun pins s σ H v u Q I r q => (Classical.choose_spec (h c)).1.run pins s σ H v u Q I r (q c)⟩, fun F0 ρ0 σ0 H0 F ρ σ H v d ρ' R S r e Q q c => (Classical.choose_spec (h c)).2 F0 ρ0 σ0 H0 F ρ σ H v d ρ' R S r e Q q⟩
/-- no exception leaves -/
abbrev W0 : WX := fun _ _ _ _ => False
def Out.nox {α : Type} : Out α → Out α
  | .ex _ _ _ => .no
  | o => o
theorem nox_ok {α : Type} {o : Out α} {p : α → Env → Prop} {x x' : Str → List (Str × D) → Env → Prop} (h : o.nox.OK p x) : o.OK p x' := by
  cases o with
  | ok a ρ => exact h
  | ex c fs ρ => exact h.elim
  | no => exact h.elim

/-! ### the block's own names -/
def wipeE (ρ : Env) : List Nat → Env
  | [] => ρ
  | v :: vs => (wipeE ρ vs).set v none
theorem wipeE_len (ρ : Env) : ∀ vs : List Nat, (wipeE ρ vs).length = ρ.length
  | [] => rfl
  | v :: vs => by unfold wipeE; rw [List.length_set, wipeE_len ρ vs]
theorem wipeE_some {ρ : Env} {i : Nat} {x : SV} : ∀ {vs : List Nat}, (wipeE ρ vs)[i]? = some (some x) → ρ[i]? = some (some x) ∧ i ∉ vs
  | [], h => ⟨h, by simp⟩
  | v :: vs, h => by
    unfold wipeE at h
    rcases get_set h with ⟨_, e⟩ | ⟨hi, h⟩
    · cases e
    · obtain ⟨h1, h2⟩ := wipeE_some h
      exact ⟨h1, by simp only [List.mem_cons, not_or]; exact ⟨fun e => hi e.symm, h2⟩⟩
theorem wipeE_out {ρ : Env} {i : Nat} : ∀ {vs : List Nat}, i ∉ vs → (wipeE ρ vs)[i]? = ρ[i]?
  | [], _ => rfl
  | v :: vs, h => by
    simp only [List.mem_cons, not_or] at h
    unfold wipeE
    rw [List.getElem?_set, if_neg (fun e => h.1 e.symm), wipeE_out h.2]
theorem wipe_out' {σ : St} {i : Nat} : ∀ {vs : List Nat}, i ∉ vs → (wipe σ vs)[i]? = σ[i]?
  | [], _ => rfl
  | v :: vs, h => by
    simp only [List.mem_cons, not_or] at h
    unfold wipe
    rw [List.getElem?_set, if_neg (fun e => h.1 e.symm), wipe_out' h.2]
/-- back to what the names held -/
def rest (ρ0 : Env) : List Nat → Env → Env
  | [], ρ => ρ
  | v :: vs, ρ => (rest ρ0 vs ρ).set v ((ρ0[v]?).join)
theorem rest_len {ρ0 : Env} : ∀ (vs : List Nat) (ρ : Env), (rest ρ0 vs ρ).length = ρ.length
  | [], _ => rfl
  | v :: vs, ρ => by unfold rest; rw [List.length_set, rest_len vs]
theorem rest_at {ρ0 : Env} {i : Nat} {x : SV} : ∀ {vs : List Nat} {ρ : Env}, (rest ρ0 vs ρ)[i]? = some (some x) → (i ∈ vs ∧ ρ0[i]? = some (some x)) ∨ (i ∉ vs ∧ ρ[i]? = some (some x))
  | [], ρ, h => .inr ⟨by simp, h⟩
  | v :: vs, ρ, h => by
    unfold rest at h
    rcases get_set h with ⟨e, z⟩ | ⟨e, z⟩
    · subst e
      refine .inl ⟨by simp, ?_⟩
      cases q : ρ0[v]? with
      | none => rw [q] at z; cases z
      | some o => rw [q] at z; cases z; rfl
    · rcases rest_at z with ⟨h1, h2⟩ | ⟨h1, h2⟩
      · exact .inl ⟨List.mem_cons_of_mem _ h1, h2⟩
      · exact .inr ⟨by simp only [List.mem_cons, not_or]; exact ⟨fun q => e q.symm, h1⟩, h2⟩
/-- the names hold no object of the def's own -/
def freeOf (ρ : Env) (vs : List Nat) : Bool := vs.all fun v => match ρ[v]? with
  | some (some s) => !s.obj
  | _ => true
section
variable {B : Bas} {F F' F0 H H' H0 : Hp} {ρ ρ' ρ0 : Env} {σ σ0 : St} {vs : List Nat}
theorem wipe_rel (R : Rel B F ρ σ H) : Rel B F (wipeE ρ vs) (wipe σ vs) H ∧ Stp F ρ σ H F (wipeE ρ vs) (wipe σ vs) H := by
  have has : ∀ k a, HasAt (wipeE ρ vs) (wipe σ vs) k a → HasAt ρ σ k a := fun k a ⟨s, h1, h2, h3⟩ => ⟨s, (wipeE_some h1).1, h2, (wipe_some h3).1⟩
  refine ⟨⟨R.ext, by rw [wipe_length, wipeE_len]; exact R.len, fun i sv h => ?_, fun i j a h1 h2 => ?_⟩, ⟨fun _ _ h => h, fun _ h => .inl h, fun _ _ h _ => h, fun _ h => h, fun k a h => .inr (has k a h), fun k b o a h1 h2 => .inr ⟨o, (wipeE_some h1).1, (wipe_some h2).1⟩, fun k o a h1 h2 => ⟨o, (wipeE_some h1).1, (wipe_some h2).1⟩⟩⟩
  · obtain ⟨h1, h2⟩ := wipeE_some h
    obtain ⟨v, g1, g2⟩ := R.sl i sv h1
    exact ⟨v, by rw [wipe_out' h2]; exact g1, g2⟩
  · obtain ⟨b, o, w1, w2⟩ := h1
    exact R.sep i j a ⟨b, o, (wipeE_some w1).1, (wipe_some w2).1⟩ (has j a h2)
theorem rest_rel (R : Rel B F ρ σ H) (fr : freeOf ρ vs = true) (S : Stp F (wipeE ρ vs) (wipe σ vs) H F' ρ' (wipe σ vs) H') (R' : Rel B F' ρ' (wipe σ vs) H') : Rel B F' (rest ρ vs ρ') σ H' ∧ Stp F ρ σ H F' (rest ρ vs ρ') σ H' := by
  have nobj : ∀ (i : Nat) (s : SV), i ∈ vs → ρ[i]? = some (some s) → s.obj = false := fun i s h1 h2 => by
    have := List.all_eq_true.mp fr i h1
    rw [h2] at this
    simpa using this
  have S' := (wipe_rel (vs := vs) R).2.trans S
  have get : ∀ (k : Nat) (s : SV), (rest ρ vs ρ')[k]? = some (some s) → s.obj = true → k ∉ vs ∧ ρ'[k]? = some (some s) := fun k s h ho => by
    rcases rest_at h with ⟨h1, h2⟩ | h
    · rw [nobj k s h1 h2] at ho; cases ho
    · exact h
  have has : ∀ k a, HasAt (rest ρ vs ρ') σ k a → HasAt ρ' (wipe σ vs) k a := fun k a ⟨s, h1, h2, h3⟩ => by
    obtain ⟨g1, g2⟩ := get k s h1 h2
    exact ⟨s, g2, h2, by rw [wipe_out' g1]; exact h3⟩
  refine ⟨⟨R'.ext, by rw [rest_len, ← R'.len, wipe_length], fun i sv h => ?_, fun i j a h1 h2 => ?_⟩, ⟨S'.mono, S'.newF, S'.keep, S'.dom, fun k a h => S'.has k a (has k a h), fun k b o a h1 h2 => ?_, fun k o a h1 h2 => ?_⟩⟩
  · rcases rest_at h with ⟨h1, h2⟩ | ⟨h1, h2⟩
    · obtain ⟨v, g1, g2⟩ := R.sl i sv h2
      exact ⟨v, g1, by
        have ho := nobj i sv h1 h2
        cases sv with
        | fz d => exact Rep.mono S.mono g2
        | ow b o => cases ho
        | lk o => cases ho
        | xn c fs =>
          obtain ⟨a, C, dd, ws, e1, g, x, q⟩ := g2
          exact ⟨a, C, dd, ws, e1, g, x, q.elim .inl fun ⟨e, h1, h2, h3⟩ => .inr ⟨e, h1, S.mono _ _ h2, h3.mono S.mono⟩⟩
        | dd => trivial⟩
    · obtain ⟨v, g1, g2⟩ := R'.sl i sv h2
      exact ⟨v, by rw [← wipe_out' h1]; exact g1, g2⟩
  · obtain ⟨b, o, w1, w2⟩ := h1
    obtain ⟨g1, g2⟩ := get i _ w1 rfl
    exact R'.sep i j a ⟨b, o, g2, by rw [wipe_out' g1]; exact w2⟩ (has j a h2)
  · obtain ⟨g1, g2⟩ := get k _ h1 rfl
    exact S'.own k b o a g2 (by rw [wipe_out' g1]; exact h2)
  · obtain ⟨g1, g2⟩ := get k _ h1 rfl
    exact S'.lks k o a g2 (by rw [wipe_out' g1]; exact h2)
/-- a thing that no slot holds, nothing leans on, is put in the place of another -/
theorem Rel.poke {p : Addr} {u w : HO} (R : Rel B F ρ σ H) (S : Stp F0 ρ0 σ0 H0 F ρ σ H) (h0 : H0 p = none) (hp : H p = some w) (hf : F p = none) (hs : ∀ k, ¬ HasAt ρ σ k p) : Rel B F ρ σ (upd H p u) ∧ Stp F0 ρ0 σ0 H0 F ρ σ (upd H p u) := by
  have kp : ∀ c z, c ≠ p → H c = some z → upd H p u c = some z := fun c z n q => by rw [upd_ne n]; exact q
  refine ⟨⟨fun a o q => kp a o (fun z => by rw [z, hf] at q; cases q) (R.ext a o q), R.len, fun i sv h => ?_, R.sep⟩, ⟨S.mono, S.newF, fun a o q hn => kp a o (fun z => by rw [z, h0] at q; cases q) (S.keep a o q hn), fun a q => ?_, S.has, S.own, S.lks⟩⟩
  · obtain ⟨v, g1, g2⟩ := R.sl i sv h
    refine ⟨v, g1, ?_⟩
    have ne : sv.obj = true → ∀ c, v = .ref c → c ≠ p := fun ho c e z => by subst e; subst z; exact hs i ⟨sv, h, ho, g1⟩
    cases sv with
    | fz d => exact g2
    | ow b o => obtain ⟨c, e1, e2, e3⟩ := g2; exact ⟨c, e1, e2, e3.keep (fun _ _ q => q) fun o q => kp c o (ne rfl c e1) q⟩
    | lk o => obtain ⟨c, e1, e2, e3⟩ := g2; exact ⟨c, e1, e2, e3.keep (fun _ _ q => q) fun o q => kp c o (ne rfl c e1) q⟩
    | xn c fs => exact g2
    | dd => trivial
  · by_cases z : a = p
    · subst z; rw [upd_same] at q; cases q
    · rw [upd_ne z] at q; exact S.dom a q
end

/-! ### targets of a comprehension -/
inductive Tg1 where
  | nm (i : Nat) | tp (is : List Nat)
def gsT : List Nat → TGs
  | [] => gNil
  | i :: is => gCons (gName i) (gsT is)
def gT (K : PySem.W.Frag) : Tg1 → TG
  | .nm i => gName i
  | .tp is => gTup K is.length (gsT is)
def tgsF : List Nat → List D → Env → Option Env
  | [] => tgNil
  | i :: is => tgCons (tgN i) (tgsF is)
def tgF : Tg1 → D → Env → Option Env
  | .nm i => tgN i
  | .tp is => tgT is.length (tgsF is)
def Tg1.ixs : Tg1 → List Nat
  | .nm i => [i]
  | .tp is => is
theorem wipe_set {σ : St} {i : Nat} {v : Option V} : ∀ {vs : List Nat}, i ∈ vs → wipe (σ.set i v) vs = wipe σ vs
  | [], h => by cases h
  | w :: vs, h => by
    unfold wipe
    by_cases hi : i ∈ vs
    · rw [wipe_set hi]
    · rcases List.mem_cons.mp h with e | h
      · subst e
        -- the name is set none at the end
        have : ∀ us : List Nat, i ∉ us → wipe (σ.set i v) us = (wipe σ us).set i v := by
          intro us hu
          induction us with
          | nil => rfl
          | cons u us ih =>
            simp only [List.mem_cons, not_or] at hu
            unfold wipe
            rw [ih hu.2, List.set_comm _ _ hu.1]
        rw [this vs hi, List.set_set]
      · exact absurd h hi
theorem gsT_ok {B : Bas} {F0 H0 F H : Hp} {ρ0 : Env} {σ0 : St} {vs : List Nat} {σ1 : St} : ∀ (is : List Nat) (ρ : Env) (σ : St) (us : List V) (ds : List D) (ρ' : Env), (∀ i ∈ is, i ∈ vs) → Rel B F ρ σ H → Stp F0 ρ0 σ0 H0 F ρ σ H → RepL B F us ds → tgsF is ds ρ = some ρ' → wipe σ vs = σ1 → ∀ Q : St → Hp → Prop,
    (∀ σ', Rel B F ρ' σ' H → Stp F0 ρ0 σ0 H0 F ρ' σ' H → wipe σ' vs = σ1 → Q σ' H) → gsT is us σ H Q
  | [], ρ, σ, us, ds, ρ', hv, R, S, r, e, hw, Q, q => by
    cases r with
    | nil => simp only [tgsF, tgNil] at e; cases e; exact ⟨rfl, q σ R S hw⟩
    | cons _ _ => simp only [tgsF, tgNil] at e; cases e
  | i :: is, ρ, σ, us, ds, ρ', hv, R, S, r, e, hw, Q, q => by
    cases r with
    | nil => simp only [tgsF, tgCons] at e; cases e
    | @cons v1 d1 us ds r1 r2 =>
      simp only [tgsF, tgCons, tgN] at e
      obtain ⟨R2, S2⟩ := R.put (i := i) (sv := .fz d1) S r1 (fun z => nomatch z)
      exact ⟨v1, us, rfl, gsT_ok is _ _ us ds ρ' (fun j hj => hv j (List.mem_cons_of_mem _ hj)) R2 S2 r2 e (by rw [wipe_set (hv i (by simp)), hw]) Q q⟩
theorem gT_ok {B : Bas} {F0 H0 F H : Hp} {ρ0 ρ ρ' : Env} {σ0 σ : St} {vs : List Nat} {tg : Tg1} {v : V} {d : D} (hv : ∀ i ∈ tg.ixs, i ∈ vs) (R : Rel B F ρ σ H) (S : Stp F0 ρ0 σ0 H0 F ρ σ H) (r : Rep B F v d) (e : tgF tg d ρ = some ρ') (Q : St → Hp → Prop)
    (q : ∀ σ', Rel B F ρ' σ' H → Stp F0 ρ0 σ0 H0 F ρ' σ' H → wipe σ' vs = wipe σ vs → Q σ' H) : gT B.K tg v σ H Q := by
  cases tg with
  | nm i =>
    cases e
    obtain ⟨R2, S2⟩ := R.put (i := i) (sv := .fz d) S r (fun z => nomatch z)
    exact q _ R2 S2 (wipe_set (hv i (by simp [Tg1.ixs])))
  | tp is =>
    cases r with
    | tup h1 l1 =>
      simp only [tgF, tgT] at e
      split at e
      · rename_i z
        exact ⟨_, _, rfl, sqt_mono R.ext h1, by rw [l1.length]; exact z, gsT_ok is ρ σ _ _ ρ' hv R S l1 e rfl Q q⟩
      · cases e
    | _ => simp only [tgF, tgT] at e; cases e

def compL (tg : D → Env → Option Env) (tt : CSem) (el : ESem) (vs : List Nat) : List D → List D → Env → Out (List D)
  | [], acc, ρ => .ok acc ρ
  | x :: r, acc, ρ => match tg x ρ with
    | some ρ0 => (tt ρ0).nox.bind fun k ρ1 => if k = true then (eF el ρ1).nox.bind fun d ρ2 => if acc.length < sizeLine then compL tg tt el vs r (acc ++ [d]) (wipeE ρ2 vs) else .no
        else compL tg tt el vs r acc (wipeE ρ1 vs)
    | none => .no
def cYes : CSem := fun ρ => .ok true ρ
theorem Out.nox_bind {α β : Type} (o : Out α) (f : α → Env → Out β) (p : β → Env → Prop) (x : Str → List (Str × D) → Env → Prop) (h : (o.nox.bind f).OK p x) (x' : Str → List (Str × D) → Env → Prop) : o.OK (fun a ρ => (f a ρ).OK p x) x' := by
  cases o with
  | ok a ρ => exact h
  | ex c fs ρ => exact h.elim
  | no => exact h.elim
/-- outside of the block's names -/
def LiveX (vs : List Nat) (ρ ρ' : Env) : Prop := ∀ (i : Nat) (sv : SV), i ∉ vs → ρ[i]? = some (some sv) → ∃ sv', ρ'[i]? = some (some sv')
theorem LiveX.trans {vs : List Nat} {a b c : Env} (h : LiveX vs a b) (k : LiveX vs b c) : LiveX vs a c := fun i sv hi e => let ⟨s1, e1⟩ := h i sv hi e; k i s1 hi e1
theorem Live.x {vs : List Nat} {a b : Env} (h : Live a b) : LiveX vs a b := fun i sv _ e => h i sv e
theorem tgsF_out : ∀ (is : List Nat) (ρ ρ' : Env) (ds : List D) (i : Nat), tgsF is ds ρ = some ρ' → i ∉ is → ρ'[i]? = ρ[i]?
  | [], ρ, ρ', ds, i, e, _ => by
    cases ds with
    | nil => simp only [tgsF, tgNil] at e; cases e; rfl
    | cons _ _ => simp only [tgsF, tgNil] at e; cases e
  | j :: is, ρ, ρ', ds, i, e, h => by
    simp only [List.mem_cons, not_or] at h
    cases ds with
    | nil => simp only [tgsF, tgCons] at e; cases e
    | cons d ds =>
      simp only [tgsF, tgCons, tgN] at e
      rw [tgsF_out is _ ρ' ds i e h.2, List.getElem?_set, if_neg fun z => h.1 z.symm]
theorem tgF_out {tg : Tg1} {d : D} {ρ ρ' : Env} {i : Nat} (e : tgF tg d ρ = some ρ') (h : i ∉ tg.ixs) : ρ'[i]? = ρ[i]? := by
  cases tg with
  | nm j =>
    cases e
    simp only [Tg1.ixs, List.mem_singleton] at h
    rw [List.getElem?_set, if_neg fun z => h z.symm]
  | tp is =>
    cases d with
    | tup ds =>
      simp only [tgF, tgT] at e
      split at e
      · exact tgsF_out is ρ ρ' ds i e h
      · cases e
    | _ => simp only [tgF, tgT] at e; cases e
theorem wipeE_live {ρ : Env} {vs : List Nat} : LiveX vs ρ (wipeE ρ vs) := fun i sv hi e => ⟨sv, by rw [wipeE_out hi]; exact e⟩
theorem rest_live {ρ ρ' : Env} {vs : List Nat} (hl : ρ'.length = ρ.length) (h : LiveX vs ρ ρ') : Live ρ (rest ρ vs ρ') := by
  intro i sv e
  have z : ∀ (us : List Nat), (i ∈ us → (rest ρ us ρ')[i]? = some (some sv)) ∧ (i ∉ us → (rest ρ us ρ')[i]? = ρ'[i]?) := by
    intro us
    induction us with
    | nil => exact ⟨fun h => (nomatch h), fun _ => rfl⟩
    | cons u us ih =>
      have hi : i < ρ.length := (List.getElem?_eq_some_iff.mp e).1
      unfold rest
      refine ⟨fun h => ?_, fun h => ?_⟩
      · rw [List.getElem?_set]
        by_cases q : u = i
        · subst q
          rw [if_pos rfl, if_pos (by rw [rest_len, hl]; exact hi), e]; rfl
        · rw [if_neg q]
          exact ih.1 ((List.mem_cons.mp h).resolve_left fun w => q w.symm)
      · simp only [List.mem_cons, not_or] at h
        rw [List.getElem?_set, if_neg fun w => h.1 w.symm]
        exact ih.2 h.2
  by_cases hi : i ∈ vs
  · exact ⟨sv, (z vs).1 hi⟩
  · rw [(z vs).2 hi]
    exact h i sv hi e
theorem wipe_wipe {σ : St} {vs : List Nat} : wipe (wipe σ vs) vs = wipe σ vs := by
  refine List.ext_getElem? fun i => ?_
  by_cases h : i ∈ vs
  · have z : ∀ (σ : St) (us : List Nat), i ∈ us → (wipe σ us)[i]? = if i < σ.length then some none else none := by
      intro σ us hu
      induction us with
      | nil => cases hu
      | cons u us ih =>
        unfold wipe
        rw [List.getElem?_set, wipe_length]
        by_cases e : u = i
        · subst e; rw [if_pos rfl]
        · rw [if_neg e]
          rcases List.mem_cons.mp hu with q | q
          · exact absurd q.symm e
          · exact ih q
    rw [z _ _ h, z _ _ h, wipe_length]
  · rw [wipe_out' h]
theorem comp_data {B : Bas} {J : It} {tg : Tg1} {tt : TT} {te : TE} {tf : CSem} {el : ESem} {vs : List Nat} {F : Hp} {ρ : Env} {σ : St} {H : Hp} {Q : VK} (hv : ∀ i ∈ tg.ixs, i ∈ vs) (hc : SemG B W0 tt tf (PostC B)) (he : SemG B W0 te el (PostE B)) (R : Rel B F ρ σ H) (fr : freeOf ρ vs = true) (ds : List D)
    (hgo : ∀ i F' ρ' H', i < ds.length → Stp F ρ σ H F' ρ' (wipe σ vs) H' → J.go i H') (hstop : ∀ F' ρ' H', Stp F ρ σ H F' ρ' (wipe σ vs) H' → J.stop ds.length H')
    (hy : ∀ i F' ρ' H' x H'', Stp F ρ σ H F' ρ' (wipe σ vs) H' → Rel B F' ρ' (wipe σ vs) H' → J.yld i H' x H'' → H'' = H' ∧ ∀ d, ds[i]? = some d → Rep B F' x d)
    (hq : (compL (tgF tg) tf el vs ds [] (wipeE ρ vs)).OK (fun acc ρ' => ∀ F' H' D, Live ρ (rest ρ vs ρ') → Stp F ρ σ H F' (rest ρ vs ρ') σ H' → Rel B F' (rest ρ vs ρ') σ H' → RvR B F' (rest ρ vs ρ') σ H H' (.ref D) (.fr (.lst acc)) → Q (.ref D) H') (fun _ _ _ => False)) :
    ∀ D, H D = none → ∃ W : Nat → Nat → Hp → Prop, (∃ m, W 0 m (upd H D (.lst []))) ∧ ∀ i m H, W i m H →
      (J.stop i H ∧ Q (.ref D) H) ∨ (J.go i H ∧ ∃ Nx : Hp → Prop, (∀ H', Nx H' → ∃ m', m' < m ∧ W (i + 1) m' H') ∧ ∀ x H', J.yld i H x H' → gT B.K tg x (wipe σ vs) H' fun σ2 H2 => wipe σ2 vs = wipe σ vs ∧ tt σ2 H2 fun b H3 =>
        if b = true then te σ2 H3 fun y H4 => ∃ acc, H4 D = some (.lst acc) ∧ acc.length < sizeLine ∧ Nx (upd H4 D (.lst (acc ++ [y]))) else Nx H3) := by
  intro D hD
  let PO : List DL.D → Env → Prop := fun acc ρ' => ∀ F' H' D, Live ρ (rest ρ vs ρ') → Stp F ρ σ H F' (rest ρ vs ρ') σ H' → Rel B F' (rest ρ vs ρ') σ H' → RvR B F' (rest ρ vs ρ') σ H H' (.ref D) (.fr (.lst acc)) → Q (.ref D) H'
  -- between two turns
  let Pv : Nat → Hp → Prop := fun i H' => ∃ F' ρ' acc us, LiveX vs ρ ρ' ∧ Stp F (wipeE ρ vs) (wipe σ vs) H F' ρ' (wipe σ vs) H' ∧ Rel B F' ρ' (wipe σ vs) H' ∧ H' D = some (.lst us) ∧ RepL B F' us acc ∧ F' D = none ∧ (∀ k, ¬ HasAt ρ' (wipe σ vs) k D) ∧
    (compL (tgF tg) tf el vs (ds.drop i) acc ρ').OK PO (fun _ _ _ => False)
  obtain ⟨R1, S1⟩ := wipe_rel (vs := vs) R
  refine ⟨fun i m H => m = ds.length - i ∧ i ≤ ds.length ∧ Pv i H, ⟨ds.length, by simp, Nat.zero_le _, ?_⟩, ?_⟩
  · obtain ⟨R2, S2⟩ := R1.alloc (u := .lst []) hD
    exact ⟨F, wipeE ρ vs, [], [], wipeE_live, S2, R2, upd_same, .nil, noF R hD, nohas R1 hD, hq⟩
  · rintro i m H1 ⟨rfl, hi, p⟩
    obtain ⟨F1, ρ1, acc, us, V1, S1w, R1', hD1, l1, f1, n1, h1⟩ := p
    have S1' := S1.trans S1w
    by_cases hlt : i < ds.length
    · refine .inr ⟨hgo i F1 ρ1 H1 hlt S1', Pv (i + 1), fun H' p' => ⟨ds.length - (i + 1), by omega, rfl, hlt, p'⟩, fun x H2 y => ?_⟩
      obtain ⟨e, hx⟩ := hy i F1 ρ1 H1 x H2 S1' R1' y
      subst e
      rw [List.drop_eq_getElem_cons hlt] at h1
      simp only [compL] at h1
      cases w : tgF tg ds[i] ρ1 with
      | none => rw [w] at h1; exact h1.elim
      | some ρ2 =>
        rw [w] at h1
        dsimp only at h1
        refine gT_ok hv R1' (Stp.refl _ _ _ _) (hx _ (List.getElem?_eq_getElem hlt)) w _ fun σ2 R2 S2 hw2 => ?_
        rw [wipe_wipe] at hw2
        have V2 : LiveX vs ρ ρ2 := V1.trans fun i sv hi e => ⟨sv, by rw [tgF_out w (fun z => hi (hv i z))]; exact e⟩
        refine ⟨hw2, ?_⟩
        have keepD : ∀ {F' : Hp} {ρ' : Env} {σ' : St} {H' : Hp}, Stp F1 ρ1 (wipe σ vs) H2 F' ρ' σ' H' → H' D = some (.lst us) ∧ F' D = none ∧ ∀ k, ¬ HasAt ρ' σ' k D := fun {F' ρ' σ' H'} S' => by
          refine ⟨S'.keep D _ hD1 fun k z => n1 k z.has, ?_, fun k z => ?_⟩
          · cases q : F' D with
            | none => rfl
            | some z =>
              rcases S'.newF D (by rw [q]; exact fun z => nomatch z) with q | q | ⟨k, q⟩
              · exact absurd f1 q
              · rw [hD1] at q; cases q
              · exact absurd q.has (n1 k)
          · rcases S'.has k D z with q | q
            · rw [hD1] at q; cases q
            · exact n1 k q
        have hws : ∀ {F' : Hp} {ρ' : Env} {H' : Hp}, Stp F1 ρ1 (wipe σ vs) H2 F' ρ' σ2 H' → Rel B F' ρ' σ2 H' → Stp F1 ρ1 (wipe σ vs) H2 F' (wipeE ρ' vs) (wipe σ vs) H' ∧ Rel B F' (wipeE ρ' vs) (wipe σ vs) H' := fun {F' ρ' H'} S' R' => by
          obtain ⟨R3, S3⟩ := wipe_rel (vs := vs) R'
          rw [hw2] at R3 S3
          exact ⟨S'.trans S3, R3⟩
        refine hc F1 ρ2 σ2 H2 R2 _ ((Out.nox_bind _ _ _ _ h1 _).imp (fun k ρ3 h3 F3 H3 S3 V3 R3 => ?_) fun _ _ _ z => z)
        have S13 := S2.trans S3
        cases k with
        | false =>
          rw [if_neg Bool.false_ne_true] at h3
          dsimp only
          rw [if_neg Bool.false_ne_true]
          obtain ⟨S4, R4⟩ := hws S13 R3
          obtain ⟨k1, k2, k3⟩ := keepD S4
          exact ⟨F3, _, acc, us, (V2.trans V3.x).trans wipeE_live, S1w.trans S4, R4, k1, l1.mono S13.mono, k2, k3, h3⟩
        | true =>
          rw [if_pos rfl] at h3
          dsimp only
          rw [if_pos rfl]
          have h3' := Out.nox_bind _ _ _ _ h3 (fun c fs ρ' => PostX B F3 ρ3 σ2 H3 c fs ρ' W0)
          refine he F3 ρ3 σ2 H3 R3 _ ?_
          unfold eF at h3'
          rw [Out.OK_bind] at h3'
          refine h3'.imp (fun r ρ4 h4 F4 H4 y S4 L4 R4 r4 => ?_) fun _ _ _ z => z
          cases e5 : frz ρ4 r with
          | none => rw [e5] at h4; exact h4.elim
          | some z =>
            obtain ⟨d, ρ5⟩ := z
            rw [e5] at h4
            obtain ⟨F5, S5, V5, R5, r5, _⟩ := frz_ok R4 S4 r4 e5
            have S15 := S13.trans S5
            simp only [Out.OK] at h4
            by_cases hz : acc.length < sizeLine
            · rw [if_pos hz] at h4
              obtain ⟨S6, R6⟩ := hws S15 R5
              obtain ⟨k1, k2, k3⟩ := keepD S6
              obtain ⟨R7, S7⟩ := R6.poke (u := .lst (us ++ [y])) (S1w.trans S6) hD k1 k2 k3
              refine ⟨us, k1, by rw [l1.length]; exact hz, F5, _, acc ++ [d], us ++ [y], (((V2.trans V3.x).trans L4.x).trans V5.x).trans wipeE_live, S7, R7, upd_same, (l1.mono S15.mono).append (.cons r5 .nil), k2, k3, h4⟩
            · rw [if_neg hz] at h4; exact h4.elim
    · have e : i = ds.length := by omega
      subst e
      rw [List.drop_eq_nil_of_le (Nat.le_refl _)] at h1
      obtain ⟨R3, S3⟩ := rest_rel R fr S1w R1'
      refine .inl ⟨hstop F1 ρ1 H1 S1', h1 F1 H1 D (rest_live (by rw [← R1'.len, ← R.len, wipe_length]) V1) S3 R3 ⟨D, rfl, hD, f1, ⟨us, hD1, l1⟩, fun k z => ?_⟩⟩
      obtain ⟨s, q1, q2, q3⟩ := z
      rcases rest_at q1 with ⟨w1, w2⟩ | ⟨w1, w2⟩
      · have := List.all_eq_true.mp fr k w1
        rw [w2] at this
        simp [q2] at this
      · exact n1 k ⟨s, w2, q2, by rw [wipe_out' w1]; exact q3⟩
end DL
end
section
/-! D13: the rules of list comprehensions. -/
namespace DL
open PySem PySem.Spec L2

def Out.onE {α : Type} (f : Env → Env) : Out α → Out α
  | .ok a ρ => .ok a (f ρ)
  | .ex c fs ρ => .ex c fs (f ρ)
  | .no => .no
def compR (tg : Tg1) (tt : CSem) (el : ESem) (vs : List Nat) (ds : List D) (ρ : Env) : Out (List D) := if freeOf ρ vs = true then (compL (tgF tg) tt el vs ds [] (wipeE ρ vs)).bind fun acc ρ' => .ok acc (rest ρ vs ρ') else .no
def compB (tg : Tg1) (tt : CSem) (el : ESem) (vs : List Nat) (r : RV) (ds : List D) (ρ : Env) : Out (List D) := match r with
  | .sl k => (match ρ[k]? with
    | some (some (.ow w o)) => (compR tg tt el vs ds (ρ.set k (some (.lk o)))).onE (unl k w)
    | _ => compR tg tt el vs ds ρ)
  | _ => compR tg tt el vs ds ρ
def eLc (src : ESem) (tg : Tg1) (tt : CSem) (el : ESem) (vs : List Nat) : ESem := fun ρ => (src ρ).bind fun r ρ1 => match rd ρ1 r with
  | some d => (match itemsD d with
    | some ds => (compB tg tt el vs r ds ρ1).nox.bind fun acc ρ2 => .ok (.fr (.lst acc)) ρ2
    | none => .no)
  | none => .no
/-- the turns of a comprehension over what stands still -/
theorem comp_still {X : Cx} {I : Addr → Value → Option Addr → Prop} {tg : Tg1} {tt : TT} {te : TE} {tf : CSem} {el : ESem} {vs : List Nat} {F : Hp} {ρ : Env} {σ : St} {H : Hp} {Q : VK} {x : V} {d : D} {ds : List D} (hv : ∀ i ∈ tg.ixs, i ∈ vs) (hc : SemG (bas X I) W0 tt tf (PostC (bas X I))) (he : SemG (bas X I) W0 te el (PostE (bas X I)))
    (R : Rel (bas X I) F ρ σ H) (hs : Still ρ σ H X.K x d (bas X I) F) (hd : itemsD d = some ds)
    (hq : (compR tg tf el vs ds ρ).OK (fun acc ρ' => ∀ F' H' D, Live ρ ρ' → Stp F ρ σ H F' ρ' σ H' → Rel (bas X I) F' ρ' σ H' → RvR (bas X I) F' ρ' σ H H' (.ref D) (.fr (.lst acc)) → Q (.ref D) H') (fun _ _ _ => False)) :
    rIter X.K x H fun J H1 => ∀ D, H1 D = none → ∃ W : Nat → Nat → Hp → Prop, (∃ m, W 0 m (upd H1 D (.lst []))) ∧ ∀ i m H, W i m H →
      (J.stop i H ∧ Q (.ref D) H) ∨ (J.go i H ∧ ∃ Nx : Hp → Prop, (∀ H', Nx H' → ∃ m', m' < m ∧ W (i + 1) m' H') ∧ ∀ x H', J.yld i H x H' → gT X.K tg x (wipe σ vs) H' fun σ2 H2 => wipe σ2 vs = wipe σ vs ∧ tt σ2 H2 fun b H3 =>
        if b = true then te σ2 H3 fun y H4 => ∃ acc, H4 D = some (.lst acc) ∧ acc.length < sizeLine ∧ Nx (upd H4 D (.lst (acc ++ [y]))) else Nx H3) := by
  unfold compR at hq
  by_cases fr : freeOf ρ vs = true
  · rw [if_pos fr, Out.OK_bind] at hq
    rcases hs with ⟨a, xs, es, e, h0, h1, h2⟩ | ⟨a, xs, es, e, h0, h1, h2⟩ | ⟨z, e, h1⟩
    · rw [hd] at h0; cases h0
      subst e
      have st : ∀ {F' ρ' σ' H'}, Stp F ρ σ H F' ρ' σ' H' → SqL X.K H' a xs := fun S' => h1.sq S'
      have hlen := h2.length
      refine .inl ⟨a, rfl, ⟨xs, st (Stp.refl _ _ _ _)⟩, comp_data (B := bas X I) hv hc he R fr ds (fun i F' ρ' H' hi S' => ?_) (fun F' ρ' H' S' => ⟨xs, st S', by omega⟩) (fun i F' ρ' H' y H'' S' R' hy => ?_) hq⟩
      · exact ⟨xs, xs[i]'(by omega), st S', by simp [show i < xs.length by omega]⟩
      · obtain ⟨e1, hy⟩ := hy
        refine ⟨e1, fun d' hd' => ?_⟩
        obtain ⟨v, w1, w2⟩ := h2.get hd'
        rw [hy xs (st S')] at w1
        cases w1
        exact w2.mono S'.mono
    · rw [hd] at h0; cases h0
      subst e
      have st : ∀ {F' ρ' σ' H'}, Stp F ρ σ H F' ρ' σ' H' → SqT X.K H' a xs := fun S' => h1.sq S'
      have hlen := h2.length
      refine .inr (.inl ⟨a, rfl, ⟨xs, st (Stp.refl _ _ _ _)⟩, comp_data (B := bas X I) hv hc he R fr ds (fun i F' ρ' H' hi S' => ?_) (fun F' ρ' H' S' => ⟨xs, st S', by omega⟩) (fun i F' ρ' H' y H'' S' R' hy => ?_) hq⟩)
      · exact ⟨xs, xs[i]'(by omega), st S', by simp [show i < xs.length by omega]⟩
      · obtain ⟨e1, hy⟩ := hy
        refine ⟨e1, fun d' hd' => ?_⟩
        obtain ⟨v, w1, w2⟩ := h2.get hd'
        rw [hy xs (st S')] at w1
        cases w1
        exact w2.mono S'.mono
    · subst e; subst h1
      simp only [itemsD, Option.some.injEq] at hd
      subst hd
      have hlen : (z.cps.toList.map fun c => D.str ⟨#[c]⟩).length = z.cps.size := by simp
      refine .inr (.inr ⟨z, rfl, comp_data (B := bas X I) hv hc he R fr _ (fun i F' ρ' H' hi S' => ?_) (fun F' ρ' H' S' => ?_) (fun i F' ρ' H' y H'' S' R' hy => ?_) hq⟩)
      · show i < z.cps.size
        rw [hlen] at hi; exact hi
      · show z.cps.size ≤ _
        rw [hlen]; exact Nat.le_refl _
      · obtain ⟨e1, c, hc, hv⟩ := hy
        refine ⟨e1, fun d' hd' => ?_⟩
        rw [List.getElem?_map] at hd'
        have hc' : z.cps.toList[i]? = some c := by simpa using hc
        rw [hc'] at hd'
        cases hd'
        subst hv
        exact .str _
  · rw [if_neg fr] at hq; exact hq.elim
theorem onE_ok {α : Type} {o : Out α} {f : Env → Env} {p : α → Env → Prop} {x : Str → List (Str × D) → Env → Prop} (h : (o.onE f).OK p x) : o.OK (fun a ρ => p a (f ρ)) (fun c fs ρ => x c fs (f ρ)) := by
  cases o with
  | ok a ρ => exact h
  | ex c fs ρ => exact h
  | no => exact h
theorem has_unl {ρ : Env} {σ : St} {k j : Nat} {b : Bool} {c : Addr} (h : HasAt (unl k b ρ) σ j c) : HasAt ρ σ j c := by
  unfold unl at h
  split at h
  · rename_i o e
    obtain ⟨s, h1, h2, h3⟩ := h
    rcases get_set h1 with ⟨e', _⟩ | ⟨_, z⟩
    · subst e'; exact ⟨_, e, rfl, h3⟩
    · exact ⟨s, z, h2, h3⟩
  · exact h
/-- a comprehension's reading, whatever kind of thing is walked -/
theorem sem_lc {X : Cx} {I : Addr → Value → Option Addr → Prop} {W : WX} {tl : TE} {src : ESem} {tg : Tg1} {tt : TT} {te : TE} {tf : CSem} {el : ESem} {vs : List Nat} (hv : ∀ i ∈ tg.ixs, i ∈ vs) (m : SemG (bas X I) W tl src (PostE (bas X I))) (hc : SemG (bas X I) W0 tt tf (PostC (bas X I))) (he : SemG (bas X I) W0 te el (PostE (bas X I))) :
    SemG (bas X I) W (tLc (iAny X.K tl) (gT X.K tg) tt te vs) (eLc src tg tf el vs) (PostE (bas X I)) := by
  intro F ρ σ H R Q hq
  rw [eLc, Out.OK_bind] at hq
  refine m F ρ σ H R _ (hq.imp (fun rv ρ1 hq F1 H1 v S1 L1 R1 r1 => ?_) fun _ _ _ z => z)
  cases e : rd ρ1 rv with
  | none => rw [e] at hq; exact hq.elim
  | some d =>
    simp only [e] at hq
    cases e2 : itemsD d with
    | none => rw [e2] at hq; exact hq.elim
    | some ds =>
      rw [e2] at hq
      dsimp only at hq
      have hq := Out.nox_bind _ _ _ _ hq (fun _ _ _ => False)
      -- slots that stood stand
      have go : ∀ {ρ2 : Env}, Rel (bas X I) F1 ρ2 σ H1 → Still ρ2 σ H1 X.K v d (bas X I) F1 → (compR tg tf el vs ds ρ2).OK (fun acc ρ' => ∀ F' H' D, Live ρ2 ρ' → Stp F1 ρ2 σ H1 F' ρ' σ H' → Rel (bas X I) F' ρ' σ H' → RvR (bas X I) F' ρ' σ H1 H' (.ref D) (.fr (.lst acc)) → Q (.ref D) H') (fun _ _ _ => False) →
          rIter X.K v H1 fun J H1 => ∀ D, H1 D = none → ∃ W : Nat → Nat → Hp → Prop, (∃ m, W 0 m (upd H1 D (.lst []))) ∧ ∀ i m H, W i m H →
            (J.stop i H ∧ Q (.ref D) H) ∨ (J.go i H ∧ ∃ Nx : Hp → Prop, (∀ H', Nx H' → ∃ m', m' < m ∧ W (i + 1) m' H') ∧ ∀ x H', J.yld i H x H' → gT X.K tg x (wipe σ vs) H' fun σ2 H2 => wipe σ2 vs = wipe σ vs ∧ tt σ2 H2 fun b H3 =>
              if b = true then te σ2 H3 fun y H4 => ∃ acc, H4 D = some (.lst acc) ∧ acc.length < sizeLine ∧ Nx (upd H4 D (.lst (acc ++ [y]))) else Nx H3) :=
        fun R2 st h2 => comp_still hv hc he R2 st e2 h2
      have plain : Still ρ1 σ H1 X.K v d (bas X I) F1 → (compR tg tf el vs ds ρ1).OK (fun acc ρ' => PostE (bas X I) F ρ σ H (.fr (.lst acc)) ρ' Q) (fun _ _ _ => False) → _ := fun st h2 => go R1 st (h2.imp (fun acc ρ' q F' H' D V' S' R' r' => q F' H' _ (S1.trans S') (L1.trans V') R' (r'.base fun a z => S1.dom a z)) fun _ _ _ z => z)
      cases rv with
      | fz d' => cases e; exact plain (still_rep R1 r1 e2) hq
      | fr ob =>
        obtain ⟨a, ea, _, _, ho, hn⟩ := r1
        subst ea
        exact plain (still_obj ho (fun k z => hn k z.has) e e2) hq
      | sl k =>
        obtain ⟨g1, sv, g2⟩ := r1
        obtain ⟨v', w1, w2⟩ := R1.sl k sv g2
        rw [g1] at w1; cases w1
        simp only [rd, g2] at e
        simp only [compB, g2] at hq
        cases sv with
        | fz d' => cases e; exact plain (still_rep R1 w2 e2) hq
        | lk ob =>
          obtain ⟨a, ea, _, ho⟩ := w2
          subst ea
          refine plain (still_obj ho (fun j z => ?_) e e2) hq
          have z2 := R1.sep j k a z ⟨_, g2, rfl, g1⟩
          subst z2
          obtain ⟨b', o1, z3, _⟩ := z
          rw [g2] at z3; cases z3
        | ow b ob =>
          obtain ⟨a, ea, _, ho⟩ := w2
          subst ea
          have RL := lock_rel R1 g2
          have nL : ∀ j, ¬ OwnAt (ρ1.set k (some (.lk ob))) σ j a := fun j ⟨b', o1, z3, z4⟩ => by
            rcases get_set z3 with ⟨_, z5⟩ | ⟨z5, z6⟩
            · cases z5
            · exact z5 (R1.sep j k a ⟨b', o1, z6, z4⟩ ⟨_, g2, rfl, g1⟩).symm
          refine go RL (still_obj ho nL e e2) ((onE_ok hq).imp (fun acc ρ' q F' H' D V' S' R' r' => ?_) fun _ _ _ z => z)
          obtain ⟨s1, s2⟩ := unlock R1 g2 S' R'
          have vu : Live ρ' (unl k b ρ') := by
            unfold unl
            split
            · exact live_set
            · exact Live.refl _
          refine q F' H' _ (S1.trans s1) ((L1.trans (live_set.trans V')).trans vu) s2 ?_
          obtain ⟨c, x1, x2, x3, x4, x5⟩ := r'
          refine ⟨c, x1, S1.dom c x2, x3, x4, fun j z => ?_⟩
          exact x5 j (has_unl z)
        | xn c fs => cases e
        | dd => cases e

/-! ### over range(..) -/
def eLcR (rg : List D → Option (Int × Int)) (args : List ESem) (tg : Tg1) (tt : CSem) (el : ESem) (vs : List Nat) : ESem := fun ρ => (eL args ρ).bind fun ds ρ1 => match rg ds with
  | some (i, j) => if smallR i j = true then (compR tg tt el vs (rangeD i j) ρ1).nox.bind fun acc ρ2 => .ok (.fr (.lst acc)) ρ2 else .no
  | none => .no
theorem comp_rng {X : Cx} {I : Addr → Value → Option Addr → Prop} {tg : Tg1} {tt : TT} {te : TE} {tf : CSem} {el : ESem} {vs : List Nat} {F : Hp} {ρ : Env} {σ : St} {H : Hp} {Q : VK} {i j : Int} (hv : ∀ i ∈ tg.ixs, i ∈ vs) (hc : SemG (bas X I) W0 tt tf (PostC (bas X I))) (he : SemG (bas X I) W0 te el (PostE (bas X I)))
    (R : Rel (bas X I) F ρ σ H) (hq : (compR tg tf el vs (rangeD i j) ρ).OK (fun acc ρ' => ∀ F' H' D, Live ρ ρ' → Stp F ρ σ H F' ρ' σ H' → Rel (bas X I) F' ρ' σ H' → RvR (bas X I) F' ρ' σ H H' (.ref D) (.fr (.lst acc)) → Q (.ref D) H') (fun _ _ _ => False)) :
    ∀ D, H D = none → ∃ W : Nat → Nat → Hp → Prop, (∃ m, W 0 m (upd H D (.lst []))) ∧ ∀ k m H, W k m H →
      ((Itr i (j - i).toNat).stop k H ∧ Q (.ref D) H) ∨ ((Itr i (j - i).toNat).go k H ∧ ∃ Nx : Hp → Prop, (∀ H', Nx H' → ∃ m', m' < m ∧ W (k + 1) m' H') ∧ ∀ x H', (Itr i (j - i).toNat).yld k H x H' → gT X.K tg x (wipe σ vs) H' fun σ2 H2 => wipe σ2 vs = wipe σ vs ∧ tt σ2 H2 fun b H3 =>
        if b = true then te σ2 H3 fun y H4 => ∃ acc, H4 D = some (.lst acc) ∧ acc.length < sizeLine ∧ Nx (upd H4 D (.lst (acc ++ [y]))) else Nx H3) := by
  unfold compR at hq
  have hlen : (rangeD i j).length = (j - i).toNat := by simp [rangeD]
  by_cases fr : freeOf ρ vs = true
  · rw [if_pos fr, Out.OK_bind] at hq
    refine comp_data (B := bas X I) hv hc he R fr (rangeD i j) (fun k F' ρ' H' hk S' => ?_) (fun F' ρ' H' S' => ?_) (fun k F' ρ' H' x H'' S' R' hy => ?_) hq
    · rw [hlen] at hk; exact hk
    · rw [hlen]; exact Nat.le_refl _
    · obtain ⟨e1, e2⟩ := hy
      refine ⟨e1, fun d hd => ?_⟩
      subst e2
      unfold rangeD at hd
      rw [List.getElem?_map] at hd
      cases w : (List.range (j - i).toNat)[k]? with
      | none => rw [w] at hd; cases hd
      | some c =>
        rw [w] at hd
        cases hd
        obtain ⟨h1, h2⟩ := List.getElem?_eq_some_iff.mp w
        rw [List.getElem_range] at h2
        subst h2
        exact .int _
  · rw [if_neg fr] at hq; exact hq.elim
theorem post_lc {B : Bas} {F H F1 H1 : Hp} {ρ ρ1 : Env} {σ : St} {Q : VK} {o : Out (List D)} (S1 : Stp F ρ σ H F1 ρ1 σ H1) (L1 : Live ρ ρ1) (hq : (o.nox.bind fun acc ρ2 => Out.ok (RV.fr (.lst acc)) ρ2).OK (fun r ρ' => PostE B F ρ σ H r ρ' Q) (fun _ _ _ => True)) :
    o.OK (fun acc ρ' => ∀ F' H' D, Live ρ1 ρ' → Stp F1 ρ1 σ H1 F' ρ' σ H' → Rel B F' ρ' σ H' → RvR B F' ρ' σ H1 H' (.ref D) (.fr (.lst acc)) → Q (.ref D) H') (fun _ _ _ => False) :=
  (Out.nox_bind _ _ _ _ hq (fun _ _ _ => False)).imp (fun acc ρ' q F' H' D V' S' R' r' => q F' H' _ (S1.trans S') (L1.trans V') R' (r'.base fun a z => S1.dom a z)) fun _ _ _ z => z
section
variable {X : Cx} {I : Addr → Value → Option Addr → Prop} {W : WX} {tg : Tg1} {tt : TT} {te : TE} {tf : CSem} {el : ESem} {vs : List Nat}
theorem sem_lcR1 {tl : TA} {fa : ESem} (hv : ∀ i ∈ tg.ixs, i ∈ vs) (m : SemG (bas X I) W tl (eL [fa]) (PostL (bas X I))) (hc : SemG (bas X I) W0 tt tf (PostC (bas X I))) (he : SemG (bas X I) W0 te el (PostE (bas X I))) :
    SemG (bas X I) W (tLc (iRng1 tl) (gT X.K tg) tt te vs) (eLcR rngOf1 [fa] tg tf el vs) (PostE (bas X I)) := by
  intro F ρ σ H R Q hq
  rw [eLcR, Out.OK_bind] at hq
  refine m F ρ σ H R _ (hq.imp (fun ds ρ1 hq F1 H1 us S1 L1 R1 r1 => ?_) fun _ _ _ z => z)
  cases e : rngOf1 ds with
  | none => rw [e] at hq; exact hq.elim
  | some ij =>
    obtain ⟨i, j⟩ := ij
    simp only [e] at hq
    by_cases z : smallR i j = true
    · rw [if_pos z] at hq
      simp only [smallR, Bool.and_eq_true, decide_eq_true_eq] at z
      cases r1 with
      | nil => cases e
      | cons x1 x2 =>
        cases x2 with
        | nil =>
          cases x1 <;> simp only [rngOf1] at e <;> cases e
          refine ⟨_, rfl, z.2.2.1, z.2.2.2, ?_⟩
          have := comp_rng (i := 0) hv hc he R1 (post_lc S1 L1 (hq.imp (fun _ _ z => z) fun _ _ _ _ => trivial))
          rwa [Int.sub_zero] at this
        | cons y1 y2 => cases x1 <;> cases e
    · rw [if_neg z] at hq; exact hq.elim
theorem sem_lcR2 {tl : TA} {fa fb : ESem} (hv : ∀ i ∈ tg.ixs, i ∈ vs) (m : SemG (bas X I) W tl (eL [fa, fb]) (PostL (bas X I))) (hc : SemG (bas X I) W0 tt tf (PostC (bas X I))) (he : SemG (bas X I) W0 te el (PostE (bas X I))) :
    SemG (bas X I) W (tLc (iRng2 tl) (gT X.K tg) tt te vs) (eLcR rngOf2 [fa, fb] tg tf el vs) (PostE (bas X I)) := by
  intro F ρ σ H R Q hq
  rw [eLcR, Out.OK_bind] at hq
  refine m F ρ σ H R _ (hq.imp (fun ds ρ1 hq F1 H1 us S1 L1 R1 r1 => ?_) fun _ _ _ z => z)
  cases e : rngOf2 ds with
  | none => rw [e] at hq; exact hq.elim
  | some ij =>
    obtain ⟨i, j⟩ := ij
    simp only [e] at hq
    by_cases z : smallR i j = true
    · rw [if_pos z] at hq
      simp only [smallR, Bool.and_eq_true, decide_eq_true_eq] at z
      cases r1 with
      | nil => cases e
      | cons x1 x2 =>
        cases x2 with
        | nil => cases x1 <;> cases e
        | cons y1 y2 =>
          cases y2 with
          | cons _ _ => cases x1 <;> cases y1 <;> cases e
          | nil =>
            cases x1 <;> cases y1 <;> simp only [rngOf2] at e <;> cases e
            exact ⟨_, _, rfl, ⟨z.1, z.2.1, z.2.2.1, z.2.2.2⟩, comp_rng hv hc he R1 (post_lc S1 L1 (hq.imp (fun _ _ z => z) fun _ _ _ _ => trivial))⟩
    · rw [if_neg z] at hq; exact hq.elim

/-! ### the rules -/
/-- a block's context -/
abbrev BlkX (X : Cx) (scope : Scope) (c : Shared × Hp × Addr × List (Str × Addr) × List Addr) : Cx := X.blk c.1 c.2.1 scope (compEnvC scope c.2.2.2.1 c.2.2.1 X.env) c.2.2.2.2
def SPT (X : Cx) (I : Addr → Value → Option Addr → Prop) (W : WX) (es : List Expr) (f : CSem) : Prop := ∃ t, PTs X es t ∧ SemG (bas X I) W t f (PostC (bas X I))
theorem spt_nil {Y : Cx} : SPT Y I W [] cYes := ⟨_, pts_nil, fun F ρ σ H R Q h => h F H (Stp.refl _ _ _ _) (Live.refl _) R⟩
theorem spt_one {Y : Cx} {c : Expr} {f : CSem} (h : SC Y I W c f) : SPT Y I W [c] f := let ⟨t, p, m⟩ := h; ⟨t, pts_one p, m⟩
variable {elt tgt it : Expr} {ifs : List Expr} {scope : Scope} {own : List (Str × Nat)} {pos : Pos} {src : ESem}
theorem ixs_mem {own : List (Str × Nat)} {tg : Tg1} (h : (tg.ixs.all fun i => decide (i ∈ own.map (·.2))) = true) : ∀ i ∈ tg.ixs, i ∈ own.map (·.2) := fun i hi => of_decide_eq_true (List.all_eq_true.mp h i hi)
theorem se_lc (hc : X.calm = true) (hN : X.N.Nodup) (h : SE X I W it src) (ok : BlkOk X.N X.env.scope scope own) (hv : (tg.ixs.all fun i => decide (i ∈ own.map (·.2))) = true)
    (hg : ∀ c, PG (BlkX X scope c) tgt (gT X.K tg)) (ht : ∀ c, SPT (BlkX X scope c) I W0 ifs tf) (he : ∀ c, SE (BlkX X scope c) I W0 elt el) (hs : ∀ x, foldedSetIterable it X.env x = pure x := by intro _; rfl) :
    SE X I W (.ListComp elt [⟨tgt, it, ifs, 0⟩] scope pos) (eLc src tg tf el (own.map (·.2))) := by
  obtain ⟨t, p, m⟩ := h
  obtain ⟨u, q, n⟩ := uni_C (X := BlkX X scope) (B := bas X I) ht
  obtain ⟨w, r, o⟩ := uni_E (X := BlkX X scope) (B := bas X I) he
  exact ⟨_, pe_lc hc hN (pi_any p) ok (fun s H C cl fp => hg (s, H, C, cl, fp)) (fun s H C cl fp => q (s, H, C, cl, fp)) (fun s H C cl fp => r (s, H, C, cl, fp)) hs, sem_lc (ixs_mem hv) m n o⟩
theorem ss_setLc {i : Nat} {y : Str} {py spos : Pos} (hc : X.calm = true) (hN : X.N.Nodup) (hy : X.N[i]? = some y) (hyl : X.env.scope.names.lookup y = some .local)
    (hsw : swapsWith (.ListComp elt [⟨tgt, it, ifs, 0⟩] scope pos) (some (.Name y py)) spos.line X.env = pure true) (h : SE X I W it src) (ok : BlkOk X.N X.env.scope scope own) (hv : (tg.ixs.all fun i => decide (i ∈ own.map (·.2))) = true)
    (hg : ∀ c, PG (BlkX X scope c) tgt (gT X.K tg)) (ht : ∀ c, SPT (BlkX X scope c) I W0 ifs tf) (he : ∀ c, SE (BlkX X scope c) I W0 elt el) (hs : ∀ x, foldedSetIterable it X.env x = pure x := by intro _; rfl) :
    SS X I W (.Assign [.Name y py] (.ListComp elt [⟨tgt, it, ifs, 0⟩] scope pos) spos) (sA i (eLc src tg tf el (own.map (·.2)))) := by
  obtain ⟨t, p, m⟩ := h
  obtain ⟨u, q, n⟩ := uni_C (X := BlkX X scope) (B := bas X I) ht
  obtain ⟨w, r, o⟩ := uni_E (X := BlkX X scope) (B := bas X I) he
  exact ⟨_, ps_setLc hc hN hy hyl hsw (pi_any p) ok (fun s H C cl fp => hg (s, H, C, cl, fp)) (fun s H C cl fp => q (s, H, C, cl, fp)) (fun s H C cl fp => r (s, H, C, cl, fp)) hs, sem_asg (sem_lc (ixs_mem hv) m n o)⟩
/-- over range(b) -/
theorem se_lc1 {a : Expr} {fa : ESem} {p0 p1 : Pos} (hc : X.calm = true) (hN : X.N.Nodup) (hgl : Gl X "range") (hm : X.mg "range" = none) (h : SL X I W [a] (eL [fa])) (ok : BlkOk X.N X.env.scope scope own) (hv : (tg.ixs.all fun i => decide (i ∈ own.map (·.2))) = true)
    (hg : ∀ c, PG (BlkX X scope c) tgt (gT X.K tg)) (ht : ∀ c, SPT (BlkX X scope c) I W0 ifs tf) (he : ∀ c, SE (BlkX X scope c) I W0 elt el) (hs1 : starEach [a] X.env = [(false, eval a X.env)] := by rfl) (hs : ∀ x, foldedSetIterable (.Call (.Name "range" p0) [a] [] p1) X.env x = pure x := by intro _; rfl) :
    SE X I W (.ListComp elt [⟨tgt, .Call (.Name "range" p0) [a] [] p1, ifs, 0⟩] scope pos) (eLcR rngOf1 [fa] tg tf el (own.map (·.2))) := by
  obtain ⟨t, p, m⟩ := h
  obtain ⟨u, q, n⟩ := uni_C (X := BlkX X scope) (B := bas X I) ht
  obtain ⟨w, r, o⟩ := uni_E (X := BlkX X scope) (B := bas X I) he
  exact ⟨_, pe_lc hc hN (pi_range1 hgl hm p hs1) ok (fun s H C cl fp => hg (s, H, C, cl, fp)) (fun s H C cl fp => q (s, H, C, cl, fp)) (fun s H C cl fp => r (s, H, C, cl, fp)) hs, sem_lcR1 (ixs_mem hv) m n o⟩
theorem ss_setLc1 {a : Expr} {fa : ESem} {p0 p1 : Pos} {i : Nat} {y : Str} {py spos : Pos} (hc : X.calm = true) (hN : X.N.Nodup) (hy : X.N[i]? = some y) (hyl : X.env.scope.names.lookup y = some .local)
    (hsw : swapsWith (.ListComp elt [⟨tgt, .Call (.Name "range" p0) [a] [] p1, ifs, 0⟩] scope pos) (some (.Name y py)) spos.line X.env = pure true) (hgl : Gl X "range") (hm : X.mg "range" = none) (h : SL X I W [a] (eL [fa])) (ok : BlkOk X.N X.env.scope scope own) (hv : (tg.ixs.all fun i => decide (i ∈ own.map (·.2))) = true)
    (hg : ∀ c, PG (BlkX X scope c) tgt (gT X.K tg)) (ht : ∀ c, SPT (BlkX X scope c) I W0 ifs tf) (he : ∀ c, SE (BlkX X scope c) I W0 elt el) (hs1 : starEach [a] X.env = [(false, eval a X.env)] := by rfl) (hs : ∀ x, foldedSetIterable (.Call (.Name "range" p0) [a] [] p1) X.env x = pure x := by intro _; rfl) :
    SS X I W (.Assign [.Name y py] (.ListComp elt [⟨tgt, .Call (.Name "range" p0) [a] [] p1, ifs, 0⟩] scope pos) spos) (sA i (eLcR rngOf1 [fa] tg tf el (own.map (·.2)))) := by
  obtain ⟨t, p, m⟩ := h
  obtain ⟨u, q, n⟩ := uni_C (X := BlkX X scope) (B := bas X I) ht
  obtain ⟨w, r, o⟩ := uni_E (X := BlkX X scope) (B := bas X I) he
  exact ⟨_, ps_setLc hc hN hy hyl hsw (pi_range1 hgl hm p hs1) ok (fun s H C cl fp => hg (s, H, C, cl, fp)) (fun s H C cl fp => q (s, H, C, cl, fp)) (fun s H C cl fp => r (s, H, C, cl, fp)) hs, sem_asg (sem_lcR1 (ixs_mem hv) m n o)⟩
/-- over range(a, b) -/
theorem se_lc2 {a b : Expr} {fa fb : ESem} {p0 p1 : Pos} (hc : X.calm = true) (hN : X.N.Nodup) (hgl : Gl X "range") (hm : X.mg "range" = none) (h : SL X I W [a, b] (eL [fa, fb])) (ok : BlkOk X.N X.env.scope scope own) (hv : (tg.ixs.all fun i => decide (i ∈ own.map (·.2))) = true)
    (hg : ∀ c, PG (BlkX X scope c) tgt (gT X.K tg)) (ht : ∀ c, SPT (BlkX X scope c) I W0 ifs tf) (he : ∀ c, SE (BlkX X scope c) I W0 elt el) (hs1 : starEach [a, b] X.env = [(false, eval a X.env), (false, eval b X.env)] := by rfl) (hs2 : starEach [b] X.env = [(false, eval b X.env)] := by rfl) (hs : ∀ x, foldedSetIterable (.Call (.Name "range" p0) [a, b] [] p1) X.env x = pure x := by intro _; rfl) :
    SE X I W (.ListComp elt [⟨tgt, .Call (.Name "range" p0) [a, b] [] p1, ifs, 0⟩] scope pos) (eLcR rngOf2 [fa, fb] tg tf el (own.map (·.2))) := by
  obtain ⟨t, p, m⟩ := h
  obtain ⟨u, q, n⟩ := uni_C (X := BlkX X scope) (B := bas X I) ht
  obtain ⟨w, r, o⟩ := uni_E (X := BlkX X scope) (B := bas X I) he
  exact ⟨_, pe_lc hc hN (pi_range2 hgl hm p hs1 hs2) ok (fun s H C cl fp => hg (s, H, C, cl, fp)) (fun s H C cl fp => q (s, H, C, cl, fp)) (fun s H C cl fp => r (s, H, C, cl, fp)) hs, sem_lcR2 (ixs_mem hv) m n o⟩
theorem ss_setLc2 {a b : Expr} {fa fb : ESem} {p0 p1 : Pos} {i : Nat} {y : Str} {py spos : Pos} (hc : X.calm = true) (hN : X.N.Nodup) (hy : X.N[i]? = some y) (hyl : X.env.scope.names.lookup y = some .local)
    (hsw : swapsWith (.ListComp elt [⟨tgt, .Call (.Name "range" p0) [a, b] [] p1, ifs, 0⟩] scope pos) (some (.Name y py)) spos.line X.env = pure true) (hgl : Gl X "range") (hm : X.mg "range" = none) (h : SL X I W [a, b] (eL [fa, fb])) (ok : BlkOk X.N X.env.scope scope own) (hv : (tg.ixs.all fun i => decide (i ∈ own.map (·.2))) = true)
    (hg : ∀ c, PG (BlkX X scope c) tgt (gT X.K tg)) (ht : ∀ c, SPT (BlkX X scope c) I W0 ifs tf) (he : ∀ c, SE (BlkX X scope c) I W0 elt el) (hs1 : starEach [a, b] X.env = [(false, eval a X.env), (false, eval b X.env)] := by rfl) (hs2 : starEach [b] X.env = [(false, eval b X.env)] := by rfl) (hs : ∀ x, foldedSetIterable (.Call (.Name "range" p0) [a, b] [] p1) X.env x = pure x := by intro _; rfl) :
    SS X I W (.Assign [.Name y py] (.ListComp elt [⟨tgt, .Call (.Name "range" p0) [a, b] [] p1, ifs, 0⟩] scope pos) spos) (sA i (eLcR rngOf2 [fa, fb] tg tf el (own.map (·.2)))) := by
  obtain ⟨t, p, m⟩ := h
  obtain ⟨u, q, n⟩ := uni_C (X := BlkX X scope) (B := bas X I) ht
  obtain ⟨w, r, o⟩ := uni_E (X := BlkX X scope) (B := bas X I) he
  exact ⟨_, ps_setLc hc hN hy hyl hsw (pi_range2 hgl hm p hs1 hs2) ok (fun s H C cl fp => hg (s, H, C, cl, fp)) (fun s H C cl fp => q (s, H, C, cl, fp)) (fun s H C cl fp => r (s, H, C, cl, fp)) hs, sem_asg (sem_lcR2 (ixs_mem hv) m n o)⟩
end
end DL
end
section
/-! E0: super().__init__(..) of an own error over ValueError. -/
namespace DL
open PySem PySem.Spec L2

/-- as cxOf, for a def that closes over its class -/
def cxS (CX : CXT) (P : Program) (w : World) (K : PySem.W.Frag) (mg : Str → Option Value) (base : Heap) (N : List Str) (qual : Str) (scope : Scope) (f : Addr) (cd : Value) (cc : Addr) (A : Around) (outer : List PySem.Env) (s : Shared) (H : Hp) (E : XK) : Cx where
  prog := P
  w := w
  K := K
  mg := mg
  base := base
  A := A.deeper (PySem.W.ksEnv qual scope s.heap.objs.size f cd cc)
  N := N
  s_0 := s
  H_0 := H
  env := PySem.W.ksEnv qual scope s.heap.objs.size f cd cc
  outer := outer
  stack := PySem.W.ksEnv qual scope s.heap.objs.size f cd cc :: outer
  ex := []
  calm := true
  fn := fun _ => false
  pn := []
  xe := fun e s' => wpAny (model P w) (A.deeper (PySem.W.ksEnv qual scope s.heap.objs.size f cd cc)) (leaving (PySem.W.ksEnv qual scope s.heap.objs.size f cd cc) e) (fun _ s'' => CX outer H s E e s'') (fun e' s'' => CX outer H s E e' s'') s'

structure SupScope (N ps : List Str) (sc : Scope) : Prop where
  kind : sc.kind = .function
  co : sc.isCoroutine = false
  gen : sc.isGenerator = false
  nd : N.Nodup
  pre : N.take ps.length = ps
  par : ∀ x ∈ ps, sc.names.lookup x = some .local
  ncell : ∀ y ∈ sc.names, y.2 ≠ .cell
  fr : ∀ p ∈ sc.names, p.2 = .free → p.1 = "__class__"

theorem lookup_mem {α : Type} {x : Str} {v : α} : ∀ {l : List (Str × α)}, (l.map (·.1)).Nodup → (x, v) ∈ l → l.lookup x = some v
  | [], _, h => by cases h
  | (y, u) :: r, nd, h => by
    rw [List.map_cons, List.nodup_cons] at nd
    rcases List.mem_cons.mp h with e | h2
    · cases e; simp [List.lookup]
    · have ne : (x == y) = false := by
        apply beq_eq_false_iff_ne.mpr
        intro e; subst e
        exact nd.1 (List.mem_map_of_mem (f := (·.1)) h2)
      simp only [List.lookup, ne]
      exact lookup_mem nd.2 h2
theorem zip_fst {α β : Type} : ∀ (a : List α) (b : List β), a.length = b.length → (a.zip b).map (·.1) = a
  | [], _, _ => rfl
  | x :: a, [], e => by cases e
  | x :: a, y :: b, e => by simp only [List.zip_cons_cons, List.map_cons]; rw [zip_fst a b (Nat.succ.inj e)]
theorem zip_mem {α β : Type} {x : α} {y : β} : ∀ {a : List α} {b : List β} {i : Nat}, a[i]? = some x → b[i]? = some y → (x, y) ∈ a.zip b
  | [], _, i, h, _ => by simp at h
  | _ :: _, [], i, _, h => by simp at h
  | _ :: a, _ :: b, 0, h, k => by simp at h k; subst h k; exact List.mem_cons_self ..
  | _ :: a, _ :: b, i + 1, h, k => List.mem_cons_of_mem _ (zip_mem (i := i) (by simpa using h) (by simpa using k))

theorem inv_startS {CX : CXT} {P : Program} {w : World} {K : PySem.W.Frag} {mg : Str → Option Value} {base : Heap} {N ps : List Str} {qual : Str} {scope : Scope} {f cc : Addr} {cd : Value} {A : Around} {outer : List PySem.Env} {s : Shared} {h1 : Heap} {tk : Nat} {H : Hp} {E : XK} {us : List Value} {vs : List V}
    {cl : Value} {cld : Option Addr} {cv : Option Value} {csl : Array (Option Value)} (S : SupScope N ps scope) (hcc : K.lookup cc = some ⟨cl, cld, .cell cv, csl⟩) (hd : A.handled = none) (e0 : Env0 P w K mg base A outer s H) (hl : vs.length = ps.length) (r : Vals vs us)
    (hn : h1.Ns s.heap.objs.size (fun x => (ps.zip us).reverse.lookup x)) (hk : ∀ b o, s.heap.get? b = some o → h1.get? b = some o) :
    Inv (cxS CX P w K mg base N qual scope f cd cc A outer s H E) [] (start N vs) H { s with heap := h1, toks := tk } := by
  have hpl : ps.length ≤ N.length := by have := congrArg List.length S.pre; rw [List.length_take] at this; omega
  have noA : ∀ b : Addr, b ∉ (cxS CX P w K mg base N qual scope f cd cc A outer s H E).ex := fun b z => absurd (show b ∈ ([] : List Addr) from z) (by simp)
  have clk : ∀ (y : Str) (c : Addr), (cxS CX P w K mg base N qual scope f cd cc A outer s H E).env.cells.lookup y = some c → y = "__class__" ∧ c = cc := fun y c h => by
    have h : List.lookup y [(("__class__" : Str), cc)] = some c := h
    simp only [List.lookup] at h
    by_cases q : y = "__class__"
    · subst q
      simp at h
      exact ⟨rfl, h.symm⟩
    · rw [beq_eq_false_iff_ne.mpr q] at h; cases h
  have hbase := e0.mod.kin _ _ hcc
  obtain ⟨hs, hH⟩ := e0.bs _ _ hbase
  have ul : us.length = ps.length := r.length.symm.trans hl
  refine ⟨⟨e0.mod, S.kind, rfl, rfl, Nat.le_refl _, fun y z c h1 h2 => (clk y c h1).1.trans (clk z c h2).1.symm, fun y hy => ?_, fun y c h _ => absurd h Bool.false_ne_true, fun _ => hd, Around.frames_deeper e0.frames, .inr ⟨rfl, rfl⟩, fun b z => absurd z (noA b), e0.bs, e0.bsz, fun b _ _ => noA b, fun b z => absurd z (noA b), e0.funs, e0.frf⟩,
    rfl, e0.bare, Un.kept hk, ⟨_, hn, fun i y v h1 h2 h3 => ?_⟩, fun y c h => ?_, e0.hok.fresh (Nat.le_refl _), fun y c h => ?_, fun p hp => absurd (show p ∈ ([] : List (Addr × Obj)) from hp) (by simp), e0.hok.kept hk, ?_⟩
  · have hy : scope.names.lookup y = some .cell ∨ scope.names.lookup y = some .free := hy
    rcases hy with hy | hy
    · exact absurd rfl (S.ncell _ (PySem.mem_of_lookup hy))
    · have z : y = "__class__" := S.fr (y, .free) (PySem.mem_of_lookup hy) rfl
      rw [z]; exact ⟨cc, rfl⟩
  · have hi : i < vs.length := by
      unfold L2.start at h2
      by_cases hi : i < vs.length
      · exact hi
      · rw [List.getElem?_append_right (by simpa using hi)] at h2
        rw [List.getElem?_replicate] at h2
        split at h2 <;> cases h2
    have ha : vs[i]? = some v := by
      unfold L2.start at h2
      rw [List.getElem?_append_left (by simpa using hi), List.getElem?_map] at h2
      cases e : vs[i]? with
      | none => rw [e] at h2; cases h2
      | some a => rw [e] at h2; cases h2; rfl
    obtain ⟨u, hu, rv⟩ := r.get ha
    have hp : ps[i]? = some y := by
      rw [← S.pre, List.getElem?_take_of_lt (by omega)]; exact h1
    have ndP : ps.Nodup := by rw [← S.pre]; exact S.nd.sublist (List.take_sublist _ _)
    refine ⟨u, rv, .inl ⟨S.par y (List.mem_of_getElem? hp), ?_⟩⟩
    refine lookup_mem ?_ (List.mem_reverse.mpr (zip_mem hp hu))
    rw [List.map_reverse, zip_fst _ _ ul.symm]
    exact (List.reverse_perm ps).nodup_iff.mpr ndP
  · rw [(clk y c h).2]; exact ⟨cv, _, hk _ _ hs, rfl⟩
  · rw [(clk y c h).2]; exact hH
  · unfold L2.start
    show _ = N.length
    rw [List.length_append, List.length_map, List.length_replicate]
    omega
end DL
end
section
/-! E1: super().__init__(..) of an own error over ValueError: the rule. -/
namespace DL
open PySem PySem.Spec L2 PySem.W

/-- the bound ValueError.__init__, called -/
theorem sup_call {X : Cx} {pins : List (Addr × Obj)} {σ : St} {H : Hp} {s : Shared} {a C u : Addr} {us : List Value} {Q : Value → Shared → Prop} {E : Value → Shared → Prop} {A : Around} (T : OexC X.K C) (I : Inv X pins σ H s) (e : H a = some (exo a C none)) (hu : s.heap.get? u = some (kxs_mw "ValueError.__init__" a))
    (hl : us.length ≤ sizeLine) (h : ∀ s', Inv X pins σ H s' → Q .none s') : wpAny (model X.prog X.w) A (call (.ref u) us) Q E s := by
  obtain ⟨nm, q, N, bs, bm, sn, sub, ab, col, dd, k0, k1, k2, k3, k5, hC, hbm⟩ := T.cls
  obtain ⟨t1, ho⟩ := exo_at I.hok e
  have hC' := I.kIn _ _ hC
  obtain ⟨hp, g, d, t, os⟩ := s
  have FB := F.excBase_ValueError
  have fin : ∀ h', (∀ b o, b ≠ a → hp.get? b = some o → h'.get? b = some o) → h'.get? a = some (excObj C hp.objs.size none .none) → h'.get? hp.objs.size = some (excTup us) → Q .none ⟨h', g, d, t, os⟩ := fun h' k hx _ => by
    have J := I.write (t' := t) (x := a) (e := a) (o := exo a C none) (by rw [e]; exact True.intro) (.inl rfl) k ⟨_, hx⟩ (exo_ok hx)
    have eu : upd H a (exo a C none) = H := by
      funext b
      by_cases hb : b = a
      · rw [hb, upd_same, e]
      · rw [upd_ne hb]
    rw [eu] at J
    exact h _ J
  refine wpAny_call (codeAny_of_tree ?_)
  show wpAny _ A.in1 (callAny (.ref u) ⟨us, []⟩) _ _ _
  simp only [callAny]
  refine wpAny_bind (wpAny_load hu ?_)
  simp only [kxs_mw, show (Value.type "method-wrapper" == Value.type "method" || Value.type "method-wrapper" == Value.type "builtin_function_or_method" || Value.type "method-wrapper" == Value.type "method-wrapper") = true by decide, if_true]
  refine KFB.if_so (by decide) ?_
  refine wpAny_bind (check_bound_init FB.toExcCallFacts hC' ho rfl ?_)
  refine wpAny_bind (wpAny_pure (wpAny_pure ?_))
  refine ⟨plainId_quiet FB.init.plain _, codeAny_builtin FB.initEntry ?_⟩
  exact exc_init_tree (cls := .ref C) (t0 := t1) (dv := none) (c2 := .none) (c3 := .none) (b4 := .bool false) ho hl fin

/-- what the written part says of an own error's class, for super() in the class at D -/
structure SupC (K : Frag) (D C : Addr) : Prop where
  oex : OexC K C
  sub : mroIn K C (.ref D) = some true
  sup : ks_superIn K C D "__init__" = some (some (.builtin "ValueError.__init__"))
  ve : subIn K (.ref C) (.type "ValueError") = some true
  look : ∃ cd, clsIn K C = some cd
  lookD : ∃ cd, clsIn K D = some cd

theorem super_init {X : Cx} {pins : List (Addr × Obj)} {σ : St} {H : Hp} {s : Shared} {a C D f cc cda : Addr} {q : Str} {scope : Scope} {fd : FuncData} {ar : Arg} {cvs : Array Value} {file : Str} {tf : Tok} {oc ccl cl : Value} {od cdd cld : Option Addr} {osl ccs csl : Array (Option Value)}
    {body : List Stmt} {p0 p1 apos pos : Pos} {e : Expr} {es : List Expr} {ta : TA} {Q : Hp → Prop} {pl : PySem.Env → Sem Bool}
    (hX : X.env = ksEnv q scope X.env.locals f (.ref cda) cc) (I : Inv X pins σ H s)
    (hf : X.K.lookup f = some ⟨oc, od, .func fd, osl⟩) (hp : (fd.params.posonlyargs ++ fd.params.args).head? = some ar) (hN : X.N[0]? = some ar.arg) (hσ : σ[0]? = some (some (.ref a)))
    (hcode : X.K.lookup cda = some ⟨ccl, cdd, .fields cvs, ccs⟩) (hvs : cvs[2]? = some (.str file tf)) (hfile : ((X.prog.main.file : Str) == file) = true)
    (hcell : X.K.lookup cc = some ⟨cl, cld, .cell (some (.ref D)), csl⟩) (hsuper : X.mg "super" = none)
    (hks : scope.names.lookup ("super" : Str) = some .globalImplicit) (hkc : scope.names.lookup ("__class__" : Str) = some .free) (hka : scope.names.lookup ar.arg = some .local)
    (htop : (X.prog.main.scope.names.lookup ("super" : Str)).isSome = false) (hop : nsIn X.K cStatics "thirdparty.any" = some none) (T : SupC X.K D C) (ea : H a = some (exo a C none))
    (ha : PA X (e :: es) ta) (hq : ta σ H fun zs H1 => zs.length ≤ 1000 ∧ H1 a = some (exo a C none) ∧ Q H1)
    (he : ∀ env, eval (.Call (.Attribute (.Call (.Name "super" p0) [] [] p1) "__init__" apos) (e :: es) [] pos) env = (do
      let ov ← attributeBase (.Call (.Name "super" p0) [] [] p1) "__init__" env (eval (.Call (.Name "super" p0) [] [] p1) env)
      standAt apos.atName
      let (f, first) ← holding [ov] (getMethod ov "__init__" (pl env))
      callWith pos f first (backTo pos (starEach (e :: es) env)) []))
    (hse : starEach (e :: es) X.env = (false, eval e X.env) :: starEach es X.env) (hpl : (backTo pos (starEach es X.env)).any (·.1) = false) :
    _root_.PySem.wpAt (model X.prog X.w) X.A (.func body X.env) (eval (.Call (.Attribute (.Call (.Name "super" p0) [] [] p1) "__init__" apos) (e :: es) [] pos) X.env) (fun v s' => v = .none ∧ ∃ H', Inv X pins σ H' s' ∧ Q H') X.xe s := by
  obtain ⟨cdC, hclC⟩ := T.look
  obtain ⟨cdD, hclD⟩ := T.lookD
  obtain ⟨t1, hoa⟩ := exo_at I.hok ea
  have hkind : X.env.scope.kind = .function := I.ok.kind
  have hsc : X.env.scope = scope := by rw [hX]
  have hks' : X.env.kindOf "super" = some .globalImplicit := by unfold Env.kindOf; rw [hsc]; exact hks
  have hkc' : X.env.kindOf "__class__" = some .free := by unfold Env.kindOf; rw [hsc]; exact hkc
  have hka' : X.env.kindOf ar.arg = some .local := by unfold Env.kindOf; rw [hsc]; exact hka
  obtain ⟨mm, hns, hloc⟩ := I.loc
  obtain ⟨u0, ru0, hlook⟩ := hloc 0 ar.arg (.ref a) hN hσ (.inl (by rw [hsc]; exact hka))
  cases (show u0 = Value.ref a from ru0)
  have hmm : mm ar.arg = some (.ref a) := by
    rcases hlook with ⟨_, h⟩ | ⟨h, _⟩
    · exact h
    · rw [hka'] at h; rcases h with h | h <;> cases h
  have KX := I.kIn
  obtain ⟨oD, hD1, hD2⟩ : ∃ oD, s.heap.get? D = some oD ∧ oD.data = .cls cdD := by
    unfold clsIn at hclD
    split at hclD
    · rename_i c d cd' sl ho
      cases hclD
      exact ⟨_, KX _ _ ho, rfl⟩
    · cases hclD
  have hfunc : X.env.func = some f := by rw [hX]
  have hcod : X.env.code = .ref cda := by rw [hX]
  have hcel : X.env.cells.lookup ("__class__" : Str) = some cc := by rw [hX]; rfl
  have Ia : InstAt s.heap a { cls := .ref C, dict := none, data := .fields #[.ref t1, .none, .none, .none, .bool false, .none] } C none := ⟨hoa, rfl, rfl, trivial⟩
  refine ks_wpAt_MethodCall (pl := pl X.env) ?_ (he X.env)
  refine ks_wpAt_super_base (env := X.env) hks' hkc' rfl hfunc (KX _ _ hf) rfl hp hcod (KX _ _ hcode) rfl hvs hfile htop ?_
  refine ks_loadName_global hkind hks' ?_
  obtain ⟨mb, hmb1, hmb2⟩ := I.mod.blt
  refine PySem.Calls.loadGlobal_builtin (env := X.env) (by rw [I.ok.glob]; exact I.mod.glob.keeps I.bk) hsuper (by rw [I.ok.blt]; exact hmb1.keeps I.bk) ((hmb2 _ (by decide +kernel)).trans PyProof.Rows.Boot.«super») ⟨rfl, ?_⟩
  refine wpAny_loadName_free hkind hkc' hcel ⟨_, KX _ _ hcell, rfl⟩ ?_
  refine wpAny_loadName_local hkind hka' hns hmm ?_
  refine ks_wpAny_isType_cls hD1 hD2 ⟨rfl, ?_⟩
  obtain ⟨hh, g, d, t, os⟩ := s
  refine ks_wpAny_call_super hD1 hD2 hoa rfl (fun c z => nomatch z) (looks_mroIn KX T.sub) (fun h' eso k => ?_)
  have I2 : Inv X pins σ H ⟨h', g, d, t, os⟩ := I.kept (t' := t) k
  have KX2 := I2.kIn
  have hI : Looks (model X.prog X.w) h' (isInstance (.ref a) (.type "ValueError")) true := (InstAt.type (ox := { cls := .ref C, dict := none, data := .fields #[.ref t1, .none, .none, .none, .bool false, .none] }) (od := none) ⟨k _ _ hoa, rfl, rfl, trivial⟩).andThen (looks_subIn KX2 T.ve)
  have hsp := T.sup
  unfold ks_superIn at hsp
  rw [hclC, Option.bind_some] at hsp
  refine kxs_getMethod kxs_ValueError eso (looks_opaque KX2 hop) (l₀ := cdC.mro) (fun A Q E s k q => wpAny_bind ((looks_clsIn KX2 hclC) A _ E s k (wpAny_pure q))) rfl KX2 hsp hI (ks_ne KX Ia hclC) rfl ?_
  have hu : (h'.push (kxs_mw "ValueError.__init__" a)).get? h'.objs.size = some (kxs_mw "ValueError.__init__" a) := Heap.get?_push_at rfl rfl
  have I3 : Inv X pins σ H ⟨h'.push (kxs_mw "ValueError.__init__" a), g, d, t + 1, os⟩ := I2.kept (t' := t + 1) fun b o e => Heap.get?_push_of_some _ e
  have hun : H h'.objs.size = none := I2.hok.fresh (Nat.le_refl _)
  have huL : h'.objs.size ≠ X.env.locals := Nat.ne_of_gt I2.lt
  have hufs : h'.objs.size ∉ X.fs := I2.nofs (Nat.le_refl _)
  have I4 : Inv X ((h'.objs.size, kxs_mw "ValueError.__init__" a) :: pins) σ H ⟨h'.push (kxs_mw "ValueError.__init__" a), g, d, t + 1, os⟩ := I3.pins_of fun p hp => by
    rcases List.mem_cons.mp hp with rfl | hp
    · exact ⟨hu, hun, huL, hufs, fun v z => nomatch z⟩
    · exact I3.pin p (List.mem_append_right _ hp)
  show wpAny _ _ (callWith pos (.ref h'.objs.size) [] (backTo pos (starEach (e :: es) X.env)) []) _ _ _
  rw [hse]
  refine kxs_callWith (i := "ValueError.__init__") (x := a) (by show (false || (backTo pos (starEach es X.env)).any (·.1)) = false; rw [hpl]; rfl) ?_
  have hrun := ha.run pos _ _ σ H _ I4 hq
  rw [hse] at hrun
  refine PySem.Calls.evalArgs_plain (thn hrun fun us s5 ⟨zs, H5, I5, r5, hz, ea5, q5⟩ => ⟨(I5.pin (h'.objs.size, _) (List.mem_append_right _ (List.mem_cons_self ..))).1, ?_⟩)
  refine sup_call T.oex I5 ea5 (I5.pin (h'.objs.size, _) (List.mem_append_right _ (List.mem_cons_self ..))).1 (by show us.length ≤ _; rw [← Paired.length r5, sizeLine_eq]; omega) fun s6 I6 => ⟨rfl, H5, ?_, q5⟩
  exact I6.pins_of fun p hp => I6.pin p (List.mem_append_right _ (List.mem_cons_of_mem _ hp))
end DL
end
section
/-! E2: a def whose first words are super().__init__(..). -/
namespace DL
open PySem PySem.Spec L2 PySem.W

structure SupFn (K : Frag) (P : Program) (x qual : Str) (st : Stmt) (D f : Addr) (fd : FuncData) : Prop where
  ex : ∃ (oc : Value) (od : Option Addr) (kV doc pm : Value) (an : Option Addr) (cda : Addr) (ct : Value) (osl : Array (Option Value)) (cc : Addr) (ccl : Value) (cdd : Option Addr) (cvs : Array Value) (ccs : Array (Option Value)) (file : Str) (tf : Tok) (cl : Value) (cld : Option Addr) (csl : Array (Option Value)),
    fd = ksFn x qual (defArgs st) (defBody st) (defScope st) .none kV doc pm an (.ref cda) ct cc ∧ K.lookup f = some ⟨oc, od, .func fd, osl⟩ ∧ codeIn K (.ref cda) qual = true ∧ K.lookup cda = some ⟨ccl, cdd, .fields cvs, ccs⟩ ∧ cvs[2]? = some (.str file tf) ∧ ((P.main.file : Str) == file) = true ∧
    K.lookup cc = some ⟨cl, cld, .cell (some (.ref D)), csl⟩
  kp : keepIn K (.ref f) = true

theorem fn_super {CX : CXT} {P : Program} {w : World} {K : Frag} {mg : Str → Option Value} {base : Heap} {k : Nat} {x qual : Str} {st : Stmt} {D f : Addr} {fd : FuncData} {N ps : List Str} {sp : Sp} {ar : Arg} {e : Expr} {es : List Expr} {rest : List Stmt} {p0 p1 apos pos pos' : Pos} {pl : PySem.Env → Sem Bool}
    (F : SupFn K P x qual st D f fd) (S : SupScope N ps (defScope st)) (len : ∀ vs H Q E, sp vs H Q E → vs.length = ps.length)
    (hb : defBody st = .Expr (.Call (.Attribute (.Call (.Name "super" p0) [] [] p1) "__init__" apos) (e :: es) [] pos) pos' :: rest)
    (hp : ((defArgs st).posonlyargs ++ (defArgs st).args).head? = some ar) (hN : N[0]? = some ar.arg) (hsuper : mg "super" = none)
    (hks : (defScope st).names.lookup ("super" : Str) = some .globalImplicit) (hkc : (defScope st).names.lookup ("__class__" : Str) = some .free) (hka : (defScope st).names.lookup ar.arg = some .local)
    (htop : (P.main.scope.names.lookup ("super" : Str)).isSome = false) (hop : nsIn K cStatics "thirdparty.any" = some none)
    (hsw : ∀ env, swapsWith (.Call (.Attribute (.Call (.Name "super" p0) [] [] p1) "__init__" apos) (e :: es) [] pos) none pos'.line env = pure false)
    (he : ∀ env, eval (.Call (.Attribute (.Call (.Name "super" p0) [] [] p1) "__init__" apos) (e :: es) [] pos) env = (do
      let ov ← attributeBase (.Call (.Name "super" p0) [] [] p1) "__init__" env (eval (.Call (.Name "super" p0) [] [] p1) env)
      standAt apos.atName
      let (f, first) ← holding [ov] (getMethod ov "__init__" (pl env))
      callWith pos f first (backTo pos (starEach (e :: es) env)) []))
    (hse : ∀ env, starEach (e :: es) env = (false, eval e env) :: starEach es env) (hpl : ∀ env, (backTo pos (starEach es env)).any (·.1) = false)
    (hbody : ∀ (cdv : Value) (cc : Addr) (A : Around) (outer : List PySem.Env) (s : Shared) (H : Hp) (vs : List V) (Q : VK) (E : XK), Room k (A.deeper (ksEnv qual (defScope st) s.heap.objs.size f cdv cc)) → sp vs H Q E →
      ∃ (a C : Addr) (ta : TA) (t : TS), vs[0]? = some (.ref a) ∧ SupC K D C ∧ H a = some (exo a C none) ∧ PA (cxS CX P w K mg base N qual (defScope st) f cdv cc A outer s H E) (e :: es) ta ∧ PSs (cxS CX P w K mg base N qual (defScope st) f cdv cc A outer s H E) rest t ∧
        ta (L2.start N vs) H fun zs H1 => zs.length ≤ 1000 ∧ H1 a = some (exo a C none) ∧ t { nx := fun _ H' => Q .non H', rt := Q } (L2.start N vs) H1) :
    FnOk P w K mg base CX (k + 1) f fd ps sp := by
  refine ⟨len, fun A outer s H args us vs Q E hr e0 hbd r hsp => ?_⟩
  obtain ⟨oc, od, kV, doc, pm, an, cda, ct, osl, cc, ccl, cdd, cvs, ccs, file, tf, cl, cld, csl, rfl, lk, hcd, hcode, hvs, hfile, hcell⟩ := F.ex
  have hl := len _ _ _ _ hsp
  have KX : K.In s.heap := e0.mod.kin.keeps fun b o e => (e0.bs b o e).1
  have lim : s.heap.NoLimit := e0.mod.nolimit.keeps fun b o e => (e0.bs b o e).1
  refine ks_codeAny_call_defAt (fd := ksFn x qual (defArgs st) (defBody st) (defScope st) .none kV doc pm an (.ref cda) ct cc) (body := defBody st) (binds := ps.zip us) hr.depth (KX _ _ lk) rfl lim (codeRec_of KX hcd) rfl hbd S.ncell (fun y hy => S.par _ (List.of_mem_zip (show (y.1, y.2) ∈ ps.zip us from hy)).1) (fun h1 hns hk => ?_) S.co S.gen S.kind
  show _root_.PySem.wpAt (model P w) (A.deeper (ksEnv qual (defScope st) s.heap.objs.size f (.ref cda) cc)) (.func (defBody st) (ksEnv qual (defScope st) s.heap.objs.size f (.ref cda) cc)) (execs (defBody st) (ksEnv qual (defScope st) s.heap.objs.size f (.ref cda) cc)) _ _ _
  obtain ⟨a, C, ta, t, hv0, T, ea, hPA, hPS, hq⟩ := hbody (.ref cda) cc A outer s H vs Q E (hr.deeper _) hsp
  have I : Inv (cxS CX P w K mg base N qual (defScope st) f (.ref cda) cc A outer s H E) [] (L2.start N vs) H { s with heap := h1, toks := s.toks + (ps.zip us).length } := inv_startS S hcell hr.hd e0 hl r hns hk
  have hσ : (L2.start N vs)[0]? = some (some (.ref a)) := by
    unfold L2.start
    cases vs with
    | nil => cases hv0
    | cons v vs => simp only [List.getElem?_cons_zero, Option.some.injEq] at hv0; subst hv0; rfl
  have fin : ∀ {s' : Shared} {σ' : St} {H' : Hp} {v : V} {u : Value}, Inv (cxS CX P w K mg base N qual (defScope st) f (.ref cda) cc A outer s H E) [] σ' H' s' → RelV v u → Q v H' → CE outer P w H s Q u s' :=
    fun {s' σ' H' v u} J rv q => ⟨v, H', J.os, J.bare, J.base, J.hok, rv, q⟩
  rw [hb]
  refine ks_wpAt_execs_cons (ks_wpAt_Expr_any (ks_wpAt_mono (super_init (X := cxS CX P w K mg base N qual (defScope st) f (.ref cda) cc A outer s H E) (Q := fun H1 => t { nx := fun _ H' => Q .non H', rt := Q } (L2.start N vs) H1) rfl I lk hp hN hσ hcode hvs hfile hcell hsuper hks hkc hka htop hop T ea hPA hq he (hse _) (hpl _)) (fun v s2 hs2 => ?_) fun e s' hs => ?_) (by show (interactive (ksEnv qual (defScope st) s.heap.objs.size f (.ref cda) cc)) = false; simp [interactive, S.kind]) (hsw _))
  · obtain ⟨ev, H2, I2, q2⟩ := hs2
    show _root_.PySem.wpAt _ _ _ (execs rest _) _ _ _
    refine wpAt_of_wpAny (wpAny_mono (hPS.run [] s2 _ H2 _ I2 q2) (fun fl s' hs => ?_) fun e s' hs => hs)
    cases fl with
    | ret u =>
      obtain ⟨v, σ', H', J, rv, q⟩ := hs
      exact fin J rv q
    | next =>
      obtain ⟨σ', H', J, q⟩ := hs
      exact fin (v := V.non) (u := Value.none) J rfl q
    | brk =>
      obtain ⟨_, _, _, q⟩ := hs
      exact False.elim q
    | cont =>
      obtain ⟨_, _, _, q⟩ := hs
      exact False.elim q
  · exact hs
end DL
end
section
/-! E3: own errors whose __init__ stores its arguments: self.f = p, .. behind super().__init__(..). -/
namespace DL
open PySem PySem.Spec L2 PySem.W

/-! ### the stores -/
def exFs {α : Type} (dflt : α) (ws : List α) : List (Str × Nat) → List (Str × α) → List (Str × α)
  | [], fs => fs
  | (f, i) :: r, fs => exFs dflt ws r ((f, ws.getD i dflt) :: fs)
def tOsts (K : Frag) : List (Str × Nat) → TS
  | [] => tNext
  | (f, i) :: r => tSeq (tOst K f (tVar 0) (tVar (i + 1))) (tOsts K r)
/-- the rest of the body: the stores as they stand -/
inductive Osts (X : Cx) : List Stmt → List (Str × Nat) → Prop
  | nil : Osts X [] []
  | cons {st : Stmt} {f : Str} {i : Nat} {sts : List Stmt} {is : List (Str × Nat)} : PS X st (tOst X.K f (tVar 0) (tVar (i + 1))) → Osts X sts is → Osts X (st :: sts) ((f, i) :: is)
theorem Osts.pss {X : Cx} : ∀ {sts : List Stmt} {is : List (Str × Nat)}, Osts X sts is → PSs X sts (tOsts X.K is)
  | _, _, .nil => pss_nil
  | _, _, .cons h r => pss_cons h r.pss
theorem start_get {N : List Str} {vs : List V} {i : Nat} {v : V} (h : vs[i]? = some v) : (L2.start N vs)[i]? = some (some v) := by
  unfold L2.start
  have hi := (List.getElem?_eq_some_iff.mp h).1
  rw [List.getElem?_append_left (by rw [List.length_map]; exact hi), List.getElem?_map, h]; rfl
section
variable {K : Frag} {N : List Str} {a C : Addr} {ws : List V} {D : Ends}
theorem osts_old (T : OexC K C) {dx : Addr} (hne : dx ≠ a) : ∀ (is : List (Str × Nat)) (fs : List (Str × V)) (H : Hp), (∀ p ∈ is, p.2 < ws.length ∧ findIn K (.ref C) p.1 = some none) → H a = some (exo a C (some dx)) → H dx = some (exd dx fs) → fs.length + is.length ≤ 900 →
    (∀ H2 : Hp, (∀ b, b ≠ dx → H2 b = H b) → H2 dx = some (exd dx (exFs .non ws is fs)) → D.nx (L2.start N (.ref a :: ws)) H2) → tOsts K is D (L2.start N (.ref a :: ws)) H
  | [], fs, H, _, ha, hd, _, k => k H (fun _ _ => rfl) hd
  | (f, i) :: r, fs, H, hi, ha, hd, hl, k => by
    obtain ⟨h1, h2⟩ := hi _ (List.mem_cons_self ..)
    rw [List.length_cons] at hl
    have hw : ws[i]? = some (ws.getD i .non) := by rw [List.getD_eq_getElem?_getD, List.getElem?_eq_getElem h1]; rfl
    refine ⟨ws.getD i .non, start_get (vs := .ref a :: ws) (i := i + 1) (by simpa using hw), .ref a, start_get (vs := .ref a :: ws) (i := 0) rfl, a, C, rfl, T, h2, .inr ⟨dx, fs, ha, hd, by omega, ?_⟩⟩
    show tOsts K r D _ _
    refine osts_old T hne r ((f, ws.getD i .non) :: fs) _ (fun p hp => hi p (List.mem_cons_of_mem _ hp)) (by rw [upd_ne (Ne.symm hne)]; exact ha) upd_same (by simp only [List.length_cons]; omega) fun H2 g1 g2 => k H2 (fun b hb => by rw [g1 b hb, upd_ne hb]) g2
theorem osts_new (T : OexC K C) {f : Str} {i : Nat} {is : List (Str × Nat)} {H : Hp} (hi : ∀ p ∈ (f, i) :: is, p.2 < ws.length ∧ findIn K (.ref C) p.1 = some none) (ha : H a = some (exo a C none)) (hl : is.length ≤ 899)
    (k : ∀ (dx : Addr) (H2 : Hp), H dx = none → dx ≠ a → (∀ b, b ≠ dx → b ≠ a → H2 b = H b) → H2 a = some (exo a C (some dx)) → H2 dx = some (exd dx (exFs .non ws ((f, i) :: is) [])) → D.nx (L2.start N (.ref a :: ws)) H2) : tOsts K ((f, i) :: is) D (L2.start N (.ref a :: ws)) H := by
  obtain ⟨h1, h2⟩ := hi _ (List.mem_cons_self ..)
  have hw : ws[i]? = some (ws.getD i .non) := by rw [List.getD_eq_getElem?_getD, List.getElem?_eq_getElem h1]; rfl
  refine ⟨ws.getD i .non, start_get (vs := .ref a :: ws) (i := i + 1) (by simpa using hw), .ref a, start_get (vs := .ref a :: ws) (i := 0) rfl, a, C, rfl, T, h2, .inl ⟨ha, fun dx hd hne => ?_⟩⟩
  show tOsts K is D _ _
  refine osts_old T hne is [(f, ws.getD i .non)] _ (fun p hp => hi p (List.mem_cons_of_mem _ hp)) upd_same (by rw [upd_ne hne, upd_same]) (by simp only [List.length_cons, List.length_nil]; omega) fun H2 g1 g2 => k dx H2 hd hne (fun b hb hb' => by rw [g1 b hb, upd_ne hb', upd_ne hb]) (by rw [g1 a (Ne.symm hne), upd_same]) g2
end

/-! ### the promise, the making -/
def spErr (C : Addr) (n : Nat) (is : List (Str × Nat)) : Sp := fun vs H Q _ => ∃ (a : Addr) (ws : List V), vs = .ref a :: ws ∧ ws.length = n ∧ H a = some (exo a C none) ∧
  ∀ (dx : Addr) (H2 : Hp), H dx = none → dx ≠ a → (∀ b, b ≠ dx → b ≠ a → H2 b = H b) → H2 a = some (exo a C (some dx)) → H2 dx = some (exd dx (exFs .non ws is [])) → Q .non H2
/-- what the arguments of super().__init__ are: read without any change -/
def PArgs (X : Cx) (es : List Expr) (ps : List Str) : Prop := ∃ ta, PA X es ta ∧ ∀ (vs : List V) (H : Hp) (Q : List V → Hp → Prop), vs.length = ps.length → (∀ zs, zs.length = es.length → Q zs H) → ta (L2.start X.N vs) H Q
theorem pargs_nil {X : Cx} {ps : List Str} : PArgs X [] ps := ⟨_, pa_nil, fun vs H Q _ h => h [] rfl⟩
theorem pargs_c {X : Cx} {ps : List Str} {e : Expr} {es : List Expr} {v : V} (h : PE X e (tC v)) (r : PArgs X es ps) (hs : starEach (e :: es) X.env = (false, eval e X.env) :: starEach es X.env := by rfl) : PArgs X (e :: es) ps := by
  obtain ⟨ta, p, m⟩ := r
  exact ⟨_, pa_cons h p hs, fun vs H Q hl h => m vs H _ hl fun zs hz => h (v :: zs) (by simp [hz])⟩
theorem pargs_v {X : Cx} {ps : List Str} {e : Expr} {es : List Expr} {i : Nat} (h : PE X e (tVar i)) (hi : i < ps.length) (r : PArgs X es ps) (hs : starEach (e :: es) X.env = (false, eval e X.env) :: starEach es X.env := by rfl) : PArgs X (e :: es) ps := by
  obtain ⟨ta, p, m⟩ := r
  refine ⟨_, pa_cons h p hs, fun vs H Q hl h => ?_⟩
  have hv : vs[i]? = some vs[i] := List.getElem?_eq_getElem (by omega)
  exact ⟨vs[i], start_get hv, m vs H _ hl fun zs hz => h (_ :: zs) (by simp [hz])⟩

section
variable {P : Program} {w : World} {K : Frag} {mg : Str → Option Value} {base : Heap} {k : Nat} {x qual : Str} {st : Stmt} {C f : Addr} {fd : FuncData} {ps : List Str} {ar : Arg} {e : Expr} {es : List Expr} {rest : List Stmt} {p0 p1 apos pos pos' : Pos} {pl : PySem.Env → Sem Bool} {is : List (Str × Nat)}
/-- __init__ of an own error -/
theorem fn_err (F : SupFn K P x qual st C f fd) (S : SupScope ps ps (defScope st)) (T : SupC K C C) (his : is ≠ []) (hi : ∀ p ∈ is, p.2 + 1 < ps.length ∧ findIn K (.ref C) p.1 = some none) (hil : is.length ≤ 899) (hes : es.length ≤ 900) (n : Nat) (hn : ps.length = n + 1)
    (hb : defBody st = .Expr (.Call (.Attribute (.Call (.Name "super" p0) [] [] p1) "__init__" apos) (e :: es) [] pos) pos' :: rest)
    (hp : ((defArgs st).posonlyargs ++ (defArgs st).args).head? = some ar) (hN : ps[0]? = some ar.arg) (hsuper : mg "super" = none)
    (hks : (defScope st).names.lookup ("super" : Str) = some .globalImplicit) (hkc : (defScope st).names.lookup ("__class__" : Str) = some .free) (hka : (defScope st).names.lookup ar.arg = some .local)
    (htop : (P.main.scope.names.lookup ("super" : Str)).isSome = false) (hop : nsIn K cStatics "thirdparty.any" = some none)
    (hsw : ∀ env, swapsWith (.Call (.Attribute (.Call (.Name "super" p0) [] [] p1) "__init__" apos) (e :: es) [] pos) none pos'.line env = pure false)
    (he : ∀ env, eval (.Call (.Attribute (.Call (.Name "super" p0) [] [] p1) "__init__" apos) (e :: es) [] pos) env = (do
      let ov ← attributeBase (.Call (.Name "super" p0) [] [] p1) "__init__" env (eval (.Call (.Name "super" p0) [] [] p1) env)
      standAt apos.atName
      let (f, first) ← holding [ov] (getMethod ov "__init__" (pl env))
      callWith pos f first (backTo pos (starEach (e :: es) env)) []))
    (hse : ∀ env, starEach (e :: es) env = (false, eval e env) :: starEach es env) (hpl : ∀ env, (backTo pos (starEach es env)).any (·.1) = false)
    (hbody : ∀ X : Cx, X.N = ps → X.K = K → X.env.scope = defScope st → PArgs X (e :: es) ps ∧ Osts X rest is) :
    FnOk P w K mg base (L2.CX P w) (k + 1) f fd ps (spErr C n is) := by
  refine fn_super F S (fun vs H Q E h => ?_) hb hp hN hsuper hks hkc hka htop hop hsw he hse hpl fun cdv cc A outer s H vs Q E hr h => ?_
  · obtain ⟨a, ws, rfl, hw, _⟩ := h
    rw [List.length_cons, hw, hn]
  · obtain ⟨a, ws, rfl, hw, ha, hq⟩ := h
    obtain ⟨⟨ta, pa, ma⟩, O⟩ := hbody (cxS (L2.CX P w) P w K mg base ps qual (defScope st) f cdv cc A outer s H E) rfl rfl rfl
    refine ⟨a, C, ta, tOsts K is, rfl, T, ha, pa, O.pss, ma (.ref a :: ws) H _ (by rw [List.length_cons, hw, hn]) fun zs hz => ⟨by rw [hz, List.length_cons]; omega, ha, ?_⟩⟩
    cases is with
    | nil => exact absurd rfl his
    | cons p is =>
      obtain ⟨fl, i⟩ := p
      exact osts_new T.oex (fun p hp => ⟨by have := (hi p hp).1; omega, (hi p hp).2⟩) ha (by simp only [List.length_cons] at hil; omega) hq
end
end DL
end
section
/-! E4: raise of an own error. -/
namespace DL
open PySem PySem.Spec L2

theorem RepF.ex {B : Bas} {F : Hp} {vs : List V} {ds : List D} (h : RepL B F vs ds) : ∀ {is : List (Str × Nat)} {fs : List (Str × V)} {gs : List (Str × D)}, (∀ p ∈ is, p.2 < ds.length) → RepF B F fs gs → RepF B F (exFs .non vs is fs) (exFs .non ds is gs)
  | [], _, _, _, r => r
  | (f, i) :: is, fs, gs, hi, r => by
    have h1 := hi _ (List.mem_cons_self ..)
    have hd : ds[i]? = some (ds.getD i .non) := by rw [List.getD_eq_getElem?_getD, List.getElem?_eq_getElem h1]; rfl
    obtain ⟨v, hv, hr⟩ := h.get hd
    have e : vs.getD i .non = v := by rw [List.getD_eq_getElem?_getD, hv]; rfl
    show RepF B F (exFs .non vs is ((f, vs.getD i .non) :: fs)) (exFs .non ds is ((f, ds.getD i .non) :: gs))
    exact RepF.ex h (fun p hp => hi p (List.mem_cons_of_mem _ hp)) (.cons (by rw [e]; exact hr) r)
def sRaise (c : Str) (n : Nat) (is : List (Str × Nat)) (fs : List ESem) : SSem := fun ρ => (eL fs ρ).sbind fun ds ρ1 => if ds.length = n then .ex c (exFs .non ds is []) ρ1 else .no
theorem newXd {B : Bas} {F0 H0 F H : Hp} {ρ0 ρ : Env} {σ0 σ : St} {p : Addr} {fs : List (Str × V)} {gs : List (Str × D)} (R : Rel B F ρ σ H) (S : Stp F0 ρ0 σ0 H0 F ρ σ H) (hn : H p = none) (r : RepF B F fs gs) :
    Stp F0 ρ0 σ0 H0 (upd F p (.xd fs)) ρ σ (upd H p (.xd fs)) ∧ Rel B (upd F p (.xd fs)) ρ σ (upd H p (.xd fs)) ∧ RepF B (upd F p (.xd fs)) fs gs := by
  obtain ⟨R2, S2⟩ := R.alloc (u := .xd fs) hn
  have hf := noF R hn
  obtain ⟨R3, S3⟩ := R2.freeze (S.trans S2) upd_same hf (S.dom _ hn) (nohas R hn)
  exact ⟨S3, R3, r.mono fun a o g => by rw [upd_ne (ne_of_none g hf)]; exact g⟩
section
variable {X : Cx} {I : Addr → Value → Option Addr → Prop} {W : WX} {x : Str} {e : Expr} {es : List Expr} {fs : List ESem} {p pos pos2 : Pos} {k n : Nat} {C fI : Addr} {fd : FuncData} {ps : List Str} {is : List (Str × Nat)}
theorem ss_raise (T : OexC X.K C) (iC : PySem.W.findIn X.K (.ref C) "__init__" = some (some (.ref fI))) (tI : PySem.W.typeIn X.K (.ref fI) = some (.type "function"))
    (F1 : FnOk X.prog X.w X.K X.mg X.base (L2.CX X.prog X.w) k fI fd ps (spErr C n is)) (hr : Room (k + 1) X.A) (hb : Binds X.K fd ps []) (tk : Takes X W) (hc : X.calm = true) (hg : Gl X x) (hm : X.mg x = some (.ref C)) (ha : SL X I W (e :: es) (eL fs)) (hn : n ≤ 1000) (hi : ∀ p ∈ is, p.2 < n)
    (hdb : (x == ("__debug__" : Str)) = false := by decide) (he : starEach (e :: es) X.env = (false, eval e X.env) :: starEach es X.env := by rfl) (hpl : (backTo pos (starEach es X.env)).any (·.1) = false := by rfl) :
    SS X I W (.Raise (some (.Call (.Name x p) (e :: es) [] pos)) none pos2) (sRaise x n is fs) := by
  obtain ⟨t, pa, m⟩ := ha
  have hx : L2.Passes (L2.CX X.prog X.w) X (fun _ _ _ => False) := passes_call tk fun _ _ _ _ h => h.elim
  refine ⟨_, L2.ps_raise hc tk (pmk_oex (sp := spErr C n is) (dvs := []) T iC tI F1 hr hb .nil hx hg hm pa hdb he hpl), fun F ρ σ H R E hq => ?_⟩
  rw [sRaise, Out.OK_sbind] at hq
  refine m F ρ σ H R _ (hq.imp (fun ds ρ1 hq F1 H1 vs S1 L1 R1 r1 => ?_) fun _ _ _ z => PostX.ofZ z)
  have hl := r1.length
  by_cases z : ds.length = n
  · rw [if_pos z] at hq
    refine ⟨by omega, fun a han => ⟨a, vs ++ [], rfl, by rw [List.append_nil]; omega, upd_same, fun dx H2 hd hne hk h1 h2 => ?_⟩⟩
    rw [upd_ne hne] at hd
    rw [List.append_nil] at h2
    refine ⟨rfl, dx, _, h1, h2, hd, ?_⟩
    have eH : upd (del H2 a) dx (.xd (exFs .non vs is [])) = upd H1 dx (.xd (exFs .non vs is [])) := by
      funext b
      by_cases hb : b = dx
      · rw [hb, upd_same, upd_same]
      · rw [upd_ne hb, upd_ne hb]
        by_cases hb2 : b = a
        · rw [hb2, del_same, han]
        · rw [del_ne hb2, hk b hb hb2, upd_ne hb2]
    rw [eH]
    obtain ⟨S3, R3, r3⟩ := newXd R1 S1 hd (RepF.ex r1 (fun p hp => by have := hi p hp; omega) .nil)
    exact hq _ σ _ _ _ S3 R3 ⟨C, hm, rfl, .inr ⟨dx, _, rfl, upd_same, r3⟩⟩
  · rw [if_neg z] at hq; exact hq.elim
end
end DL
end
section
/-! E5: isinstance. -/
namespace DL
open PySem PySem.Spec L2

/-- what the written part says of an own class, for its instances' type -/
structure TyC (K : PySem.W.Frag) (C : Addr) : Prop where
  cl : Cls K C
  ha : PySem.W.findIn K (.ref C) "__class__" = some (some (.builtin "object.__class__"))
  hn : PySem.W.specialIn K (.builtin "object.__class__") "__get__" = some (some (.builtin "getset_descriptor.__get__"))
  ht : PySem.W.takesIn K (.builtin "object.__class__") = some true
  hm : PySem.W.mroIn K C (.type "object") = some true
def tyD : D → String
  | .non => "NoneType"
  | .bl _ => "bool"
  | .int _ => "int"
  | .str _ => "str"
  | .tup _ => "tuple"
  | .lst _ => "list"
  | .scr _ => "list"
  | .ins _ _ => ""
def isiD (tT : List (String × Bool)) (tK : List (Str × Bool)) : D → Option RV
  | .ins c _ => (tK.lookup c).map fun b => .fz (.bl b)
  | d => (tT.lookup (tyD d)).map fun b => .fz (.bl b)
/-- the answers kp gives for the types of the tables -/
structure IsiOk (K : PySem.W.Frag) (mg : Str → Option Value) (kp : Value → Option Bool) (tT : List (String × Bool)) (tK : List (Str × Bool)) : Prop where
  ty : ∀ p ∈ tT, kp (.type p.1) = some p.2
  own : ∀ p ∈ tK, ∃ C, mg p.1 = some (.ref C) ∧ TyC K C ∧ kp (.ref C) = some p.2
theorem mem_of_lk {α β : Type} [BEq α] [LawfulBEq α] {x : α} {y : β} : ∀ {l : List (α × β)}, l.lookup x = some y → (x, y) ∈ l
  | [], e => by cases e
  | (a, b) :: r, e => by
    simp only [List.lookup] at e
    cases q : x == a with
    | true => rw [q] at e; injection e with e; rw [beq_iff_eq.mp q, e]; exact List.mem_cons_self ..
    | false => rw [q] at e; exact List.mem_cons_of_mem _ (mem_of_lk e)
theorem isi_ty {B : Bas} {F H : Hp} {v : V} {d : D} {kp : Value → Option Bool} {tT : List (String × Bool)} {tK : List (Str × Bool)} {rv : RV} (T : IsiOk B.K B.mg kp tT tK) (m : ∀ a o, F a = some o → H a = some o) (h : RdR B F H v d) (e : isiD tT tK d = some rv) :
    ∃ t b, TyX B.K H v t ∧ kp t = some b ∧ rv = .fz (.bl b) := by
  have ty : ∀ {T0 : String}, (tT.lookup T0).map (fun b => RV.fz (.bl b)) = some rv → ∃ b, kp (.type T0) = some b ∧ rv = .fz (.bl b) := fun {T0} e => by
    cases q : tT.lookup T0 with
    | none => rw [q] at e; cases e
    | some b => rw [q] at e; cases e; exact ⟨b, T.ty _ (mem_of_lk q), rfl⟩
  have rdT : ∀ {a : Addr} {xs : List V}, Rd H a (.tup xs) → TyX B.K H (.ref a) (.type "tuple") := fun r => r.elim (fun r => .base (.tup r)) fun ⟨o, r⟩ => .fTuple r
  have rdL : ∀ {a : Addr} {xs : List V}, Rd H a (.lst xs) → TyX B.K H (.ref a) (.type "list") := fun r => r.elim (fun r => .base (.lst r)) fun ⟨o, r⟩ => .base (.frz r)
  cases d with
  | non => obtain ⟨b, e1, e2⟩ := ty e; exact ⟨_, b, by rw [h.non]; exact .base .non, e1, e2⟩
  | bl x => obtain ⟨b, e1, e2⟩ := ty e; exact ⟨_, b, by rw [h.bl]; exact .base (.bl x), e1, e2⟩
  | int x => obtain ⟨b, e1, e2⟩ := ty e; exact ⟨_, b, by rw [h.int]; exact .base (.int x), e1, e2⟩
  | str x => obtain ⟨b, e1, e2⟩ := ty e; exact ⟨_, b, by rw [h.str]; exact .base (.str x), e1, e2⟩
  | tup x =>
    obtain ⟨b, e1, e2⟩ := ty e
    obtain ⟨a, xs, rfl, h1, _⟩ := h.tup
    exact ⟨_, b, (sqt_mono m h1).elim rdT fun ⟨o, its, n, k, c, _⟩ => .kTuple k c, e1, e2⟩
  | lst x =>
    obtain ⟨b, e1, e2⟩ := ty e
    obtain ⟨a, xs, rfl, h1, _⟩ := h.lst m
    exact ⟨_, b, .base (.lst h1), e1, e2⟩
  | scr x =>
    obtain ⟨b, e1, e2⟩ := ty e
    obtain ⟨a, rfl, h1⟩ := h.scr
    exact ⟨_, b, (sql_mono m h1).elim rdL fun ⟨o, its, n, k, c, _⟩ => .kList k c, e1, e2⟩
  | ins c fs =>
    simp only [isiD] at e
    cases q : tK.lookup c with
    | none => rw [q] at e; cases e
    | some b =>
      rw [q] at e; cases e
      obtain ⟨C, g, K1, kb⟩ := T.own _ (mem_of_lk q)
      rcases h with h | ⟨a, xs, ds, rfl, e, _⟩
      · cases h with
        | ins g' hi ho hf =>
          rw [g] at g'; cases g'
          exact ⟨_, b, .base (.ins (m _ _ hi) K1.cl K1.ha K1.hn K1.ht K1.hm), kb, rfl⟩
      · cases e
section
variable {X : Cx} {I : Addr → Value → Option Addr → Prop} {W : WX} {a c : Expr} {f : ESem} {p pos : Pos} {u : Value} {cv : V} {tT : List (String × Bool)} {tK : List (Str × Bool)}
theorem se_isi (T : IsiOk X.K X.mg (fun t => PySem.W.kitOne X.K t u) tT tK) (k : ClsV cv u) (hm : X.mg "isinstance" = none) (h : SE X I W a f) (hc : PE X c (tC cv)) (hg : Gl X "isinstance" := by rfl) (hv : bootBuiltins "isinstance" = some (.builtin "isinstance") := by decide +kernel)
    (he : starEach [a, c] X.env = (false, eval a X.env) :: starEach [c] X.env := by rfl) (he2 : starEach [c] X.env = (false, eval c X.env) :: starEach [] X.env := by rfl) (hpl : (backTo pos (starEach [c] X.env)).any (·.1) = false := by rfl) : SE X I W (.Call (.Name "isinstance" p) [a, c] [] pos) (eU (isiD tT tK) f) := by
  obtain ⟨t, q, m⟩ := h
  refine ⟨_, pe_callB call_isi hg hm hv (pa_cons q (pa_cons hc pa_nil he2) he) (by decide) (by decide) he hpl, fun F ρ σ H R Q hq => ?_⟩
  rw [eU, Out.OK_bind] at hq
  refine m F ρ σ H R _ (hq.imp (fun r ρ1 hq F1 H1 v S1 L1 R1 r1 => ?_) fun _ _ _ z => z)
  cases e : rd ρ1 r with
  | none => rw [e] at hq; exact hq.elim
  | some d =>
    simp only [e] at hq
    cases e2 : isiD tT tK d with
    | none => rw [e2] at hq; exact hq.elim
    | some r' =>
      rw [e2] at hq
      obtain ⟨t, b, h1, h2, rfl⟩ := isi_ty (B := bas X I) T R1.ext (rd_ok R1 r1 e) e2
      exact ⟨v, cv, t, u, b, rfl, k, h1, h2, hq F1 H1 _ S1 L1 R1 (.bl b)⟩
/-- isinstance(e, (c1, ..)) -/
theorem se_isiT {cs : List Expr} {k2 : Nat} {p2 : Pos} {cvs : List V} {us : List Value} {tcs : TA} (T : IsiOk X.K X.mg (fun t => PySem.W.kitAny X.K t us) tT tK) (k : Paired ClsV cvs us) (hl : cvs.length ≤ sizeLine) (hm : X.mg "isinstance" = none) (h : SE X I W a f) (hc : PA X cs tcs) (htc : ∀ σ H Q, Q cvs H → tcs σ H Q)
    (hg : Gl X "isinstance" := by rfl) (hv : bootBuiltins "isinstance" = some (.builtin "isinstance") := by decide +kernel)
    (he : starEach [a, .Tuple cs k2 p2] X.env = (false, eval a X.env) :: starEach [.Tuple cs k2 p2] X.env := by rfl) (he2 : starEach [.Tuple cs k2 p2] X.env = (false, eval (.Tuple cs k2 p2) X.env) :: starEach [] X.env := by rfl) (hpl : (backTo pos (starEach [.Tuple cs k2 p2] X.env)).any (·.1) = false := by rfl) :
    SE X I W (.Call (.Name "isinstance" p) [a, .Tuple cs k2 p2] [] pos) (eU (isiD tT tK) f) := by
  obtain ⟨t, q, m⟩ := h
  refine ⟨_, pe_callB call_isiT hg hm hv (pa_cons q (pa_cons (pe_tup hc) pa_nil he2) he) (by decide) (by decide) he hpl, fun F ρ σ H R Q hq => ?_⟩
  rw [eU, Out.OK_bind] at hq
  refine m F ρ σ H R _ (hq.imp (fun r ρ1 hq F1 H1 v S1 L1 R1 r1 => ?_) fun _ _ _ z => z)
  cases e : rd ρ1 r with
  | none => rw [e] at hq; exact hq.elim
  | some d =>
    simp only [e] at hq
    cases e2 : isiD tT tK d with
    | none => rw [e2] at hq; exact hq.elim
    | some r' =>
      rw [e2] at hq
      refine htc _ _ _ ⟨hl, fun tp hn => ?_⟩
      obtain ⟨R2, S2⟩ := R1.alloc (u := .tup cvs) hn
      obtain ⟨t, b, h1, h2, rfl⟩ := isi_ty (B := bas X I) T R2.ext ((rd_ok R1 r1 e).elim .inl fun ⟨a, xs, ds, e1, e2, e3, e4⟩ => .inr ⟨a, xs, ds, e1, e2, by rw [upd_ne (ne_of_none e3 hn)]; exact e3, e4⟩) e2
      exact ⟨v, tp, cvs, t, us, b, rfl, upd_same, k, h1, h2, hq F1 _ _ (S1.trans S2) L1 R2 (.bl b)⟩
end
end DL
end
section
/-! E6: try: .. except C as n: .. ; what the suite reads of the error. -/
namespace DL
open PySem PySem.Spec L2

/-! ### within the suite -/
/-- the suite's exception -/
abbrev Is (a : Addr) (cls : Value) (d : Option Addr) : Addr → Value → Option Addr → Prop := fun a' cls' d' => a' = a ∧ cls' = cls ∧ d' = d
def rIsX (K : PySem.W.Frag) (a : Addr) (cls : Value) (d : Option Addr) : List V → Hp → VK → Prop := fun xs H Q => ∃ (c : V) (cv : Value) (b : Bool) (D : Addr), xs = [.ref a, c] ∧ cls = .ref D ∧ ExcC K D ∧ (d = none ∨ ∃ dd fs, d = some dd ∧ H dd = some (.xd fs)) ∧ (∀ u, RelV c u → u = cv) ∧ PySem.W.kitOne K (.ref D) cv = some b ∧ Q (.bl b) H
theorem call_isX {X : Cx} {a : Addr} {cls : Value} {d : Option Addr} {oe : Obj} {pn : List (Addr × Obj)} (hz : Zc cls d oe) (hf : ∃ vs, oe.data = .fields vs) : CallR (X.suite a ((a, oe) :: pn)) (.builtin "isinstance") (rIsX X.K a cls d) := by
  intro pins s σ H xs us Q I r h
  obtain ⟨c, cv, b, D, rfl, rfl, C, hd, hcv, e, q⟩ := h
  cases r with
  | cons rx rr =>
    cases rr with
    | cons rt rr =>
      cases rr
      cases rx
      have ec := hcv _ rt
      subst ec
      obtain ⟨hget, _⟩ := I.pin (a, oe) (List.mem_append.mpr (.inl List.mem_cons_self))
      obtain ⟨vs, hv⟩ := hf
      have J : ∃ od, PySem.W.InstAt s.heap a oe D od := by
        obtain ⟨oc, od, oda, osl⟩ := oe
        obtain ⟨h1, h2⟩ := hz
        dsimp only at h1 h2 hv
        subst h1 h2 hv
        rcases hd with hd | ⟨dd, fs, hd, hH⟩
        · subst hd; exact ⟨none, hget, rfl, rfl, trivial⟩
        · subst hd
          have hx : ObjOk X.prog X.w H s.heap dd (.xd fs) := I.hok dd _ hH
          obtain ⟨mA, ⟨o', es, ep, ho, _⟩, _⟩ := hx
          exact ⟨some o', hget, rfl, rfl, ho⟩
      obtain ⟨od, J⟩ := J
      exact PySem.W.kia_one (PySem.W.kitx_exc (by obtain ⟨cd, hc, _⟩ := PySem.W.any_some C.hd; rw [hc]; rfl) C.hg C.hk C.hs C.ha C.hn C.ht C.hm) I.kIn J e (fun z => nomatch z) fun tk => ⟨.bl b, H, I.kept (t' := tk) fun _ _ z => z, rfl, q⟩
def eIsX (i : Nat) (tab : List (Str × Bool)) : ESem := fun ρ => match ρ[i]? with
  | some (some (.xn c _)) => (match tab.lookup c with | some b => .ok (.fz (.bl b)) ρ | none => .no)
  | _ => .no
def eXf (i : Nat) (f : Str) (cs : List Str) : ESem := fun ρ => match ρ[i]? with
  | some (some (.xn c fs)) => if c ∈ cs then (match fs.lookup f with | some d => .ok (.fz d) ρ | none => .no) else .no
  | _ => .no
section
variable {X : Cx} {W : WX} {a : Addr} {cls : Value} {d : Option Addr} {oe : Obj} {pn : List (Addr × Obj)} {i : Nat} {n : Str} {c : Expr} {p p' pos : Pos} {cv : V} {u : Value} {tab : List (Str × Bool)} {f : Str} {cs : List Str}
theorem se_isX (hz : Zc cls d oe) (hf : ∃ vs, oe.data = .fields vs) (T : ∀ p ∈ tab, ∃ D, X.mg p.1 = some (.ref D) ∧ ExcC X.K D ∧ PySem.W.kitOne X.K (.ref D) u = some p.2) (k : ClsV cv u) (hm : X.mg "isinstance" = none)
    (hn : PE (X.suite a ((a, oe) :: pn)) (.Name n p') (tVar i)) (hc : PE (X.suite a ((a, oe) :: pn)) c (tC cv)) (hg : Gl X "isinstance" := by rfl) (hv : bootBuiltins "isinstance" = some (.builtin "isinstance") := by decide +kernel)
    (he : starEach [.Name n p', c] X.env = (false, eval (.Name n p') X.env) :: starEach [c] X.env := by rfl) (he2 : starEach [c] X.env = (false, eval c X.env) :: starEach [] X.env := by rfl) (hpl : (backTo pos (starEach [c] X.env)).any (·.1) = false := by rfl) :
    SE (X.suite a ((a, oe) :: pn)) (Is a cls d) W (.Call (.Name "isinstance" p) [.Name n p', c] [] pos) (eIsX i tab) := by
  refine ⟨_, pe_callB (X := X.suite a ((a, oe) :: pn)) (call_isX hz hf) hg hm hv (pa_cons (X := X.suite a ((a, oe) :: pn)) hn (pa_cons (X := X.suite a ((a, oe) :: pn)) hc pa_nil he2) he) (by decide) (by decide) he hpl, fun F ρ σ H R Q hq => ?_⟩
  unfold eIsX at hq
  split at hq
  · rename_i cn fs hs
    cases e : tab.lookup cn with
    | none => rw [e] at hq; exact hq.elim
    | some b =>
      rw [e] at hq
      obtain ⟨D, g, EC, kk⟩ := T _ (mem_of_lk e)
      obtain ⟨v, h1, a', C, dd, vs, rfl, g', ⟨rfl, h3, h4⟩, h5⟩ := R.sl i _ hs
      have gg : (some (Value.ref C) : Option Value) = some (.ref D) := g'.symm.trans g
      injection gg with gg; injection gg with gg; subst gg
      refine ⟨_, h1, cv, u, b, C, rfl, h3.symm, EC, ?_, fun w r => k.eq r, kk, hq F H _ (Stp.refl _ _ _ _) (Live.refl _) R (.bl b)⟩
      subst h4
      exact h5.imp (fun z => z.1) fun ⟨e, q1, q2, _⟩ => ⟨e, vs, q1, R.ext _ _ q2⟩
  · exact hq.elim
theorem se_xf (hz : Zc cls d oe) (hf : ∃ vs, oe.data = .fields vs) (T : ∀ c ∈ cs, ∃ D, X.mg c = some (.ref D) ∧ XfC X.K D ∧ PySem.W.findIn X.K (.ref D) f = some none) (hn : PE (X.suite a ((a, oe) :: pn)) (.Name n p') (tVar i)) (hb : attributeBase (.Name n p') f X.env (eval (.Name n p') X.env) = eval (.Name n p') X.env := by rfl) :
    SE (X.suite a ((a, oe) :: pn)) (Is a cls d) W (.Attribute (.Name n p') f pos) (eXf i f cs) := by
  refine ⟨fun σ H Q => ∃ D, XfC X.K D ∧ PySem.W.findIn X.K (.ref D) f = some none ∧ tXf a cls d D f (tVar i) σ H Q, ⟨fun pins s σ H Q I h => ?_⟩, fun F ρ σ H R Q hq => ?_⟩
  · obtain ⟨D, h1, h2, h3⟩ := h
    exact (pe_xf h1 h2 hz hf hn hb).run pins s σ H Q I h3
  · unfold eXf at hq
    split at hq
    · rename_i cn fs hs
      by_cases hc : cn ∈ cs
      · rw [if_pos hc] at hq
        cases e : fs.lookup f with
        | none => rw [e] at hq; exact hq.elim
        | some dv =>
          rw [e] at hq
          obtain ⟨D, g, XC, nf⟩ := T _ hc
          obtain ⟨v, h1, a', C, dd, vs, rfl, g', ⟨rfl, h3, h4⟩, h5⟩ := R.sl i _ hs
          have gg : (some (Value.ref C) : Option Value) = some (.ref D) := g'.symm.trans g
          injection gg with gg; injection gg with gg; subst gg
          rcases h5 with ⟨_, z⟩ | ⟨e', q1, q2, q3⟩
          · subst z; cases e
          · obtain ⟨w, hw, hr⟩ := q3.get e
            exact ⟨C, XC, nf, _, h1, rfl, h3.symm, e', vs, w, by rw [← h4, q1], R.ext _ _ q2, hw, hq F H _ (Stp.refl _ _ _ _) (Live.refl _) R hr⟩
      · rw [if_neg hc] at hq; exact hq.elim
    · exact hq.elim
end
end DL
end
section
/-! E7: try: .. except C as n: .. ; what is never reached. -/
namespace DL
open PySem PySem.Spec L2

theorem ss_no {X : Cx} {I : Addr → Value → Option Addr → Prop} {W : WX} {st : Stmt} : SS X I W st (fun _ => .no) := ⟨fun _ _ _ => False, ⟨fun _ _ _ _ _ _ h => h.elim⟩, fun _ _ _ _ _ _ h => h⟩
theorem se_no {X : Cx} {I : Addr → Value → Option Addr → Prop} {W : WX} {e : Expr} : SE X I W e (fun _ => .no) := ⟨fun _ _ _ => False, ⟨fun _ _ _ _ _ _ h => h.elim⟩, fun _ _ _ _ _ _ h => h⟩
theorem sc_no {X : Cx} {I : Addr → Value → Option Addr → Prop} {W : WX} {e : Expr} : SC X I W e (fun _ => .no) := ⟨fun _ _ _ => False, ⟨fun _ _ _ _ _ _ h => h.elim⟩, fun _ _ _ _ _ _ h => h⟩

def noX (ρ : Env) : Bool := ρ.all fun o => match o with
  | some (.xn _ _) => false
  | _ => true
theorem noX_at {ρ : Env} (h : noX ρ = true) {i : Nat} {c : Str} {fs : List (Str × D)} (e : ρ[i]? = some (some (.xn c fs))) : False := by
  have := List.all_eq_true.mp h _ (List.mem_of_getElem? e)
  cases this
theorem RepO.wi {B : Bas} {I' : Addr → Value → Option Addr → Prop} {F H : Hp} {a : Addr} {o : OB} (h : RepO B F H a o) : RepO (B.wi I') F H a o := by
  cases o with
  | lst ds => obtain ⟨xs, h1, h2⟩ := h; exact ⟨xs, h1, h2.wi⟩
  | ob c fs => obtain ⟨C, dx, vs, g, h1, h2, h3⟩ := h; exact ⟨C, dx, vs, g, h1, h2, h3.wi⟩
theorem Rel.wiN {B : Bas} {I' : Addr → Value → Option Addr → Prop} {F H : Hp} {ρ : Env} {σ : St} (hx : noX ρ = true) (R : Rel B F ρ σ H) : Rel (B.wi I') F ρ σ H := by
  refine ⟨R.ext, R.len, fun i sv h => ?_, R.sep⟩
  obtain ⟨v, h1, h2⟩ := R.sl i sv h
  refine ⟨v, h1, ?_⟩
  cases sv with
  | fz d => exact Rep.wi h2
  | ow b o => obtain ⟨a, e, f, q⟩ := h2; exact ⟨a, e, f, q.wi⟩
  | lk o => obtain ⟨a, e, f, q⟩ := h2; exact ⟨a, e, f, q.wi⟩
  | xn c fs => exact (noX_at hx h).elim
  | dd => trivial
theorem get_none {α : Type} {l : List (Option α)} {i j : Nat} {y : α} (h : (l.set i none)[j]? = some (some y)) : i ≠ j ∧ l[j]? = some (some y) := by
  rcases get_set h with ⟨_, z⟩ | z
  · cases z
  · exact z
theorem Rel.clr {B : Bas} {F H : Hp} {ρ : Env} {σ : St} (i : Nat) (R : Rel B F ρ σ H) : Rel B F (ρ.set i none) (σ.set i none) H := by
  have v : ∀ {j : Nat} {v : V}, i ≠ j → σ[j]? = some (some v) → (σ.set i none)[j]? = some (some v) := fun h e => by rw [List.getElem?_set, if_neg h]; exact e
  refine ⟨R.ext, by rw [List.length_set, List.length_set]; exact R.len, fun j sv h => ?_, fun j k a h1 h2 => ?_⟩
  · obtain ⟨ne, h⟩ := get_none h
    obtain ⟨w, h1, h2⟩ := R.sl j sv h
    exact ⟨w, v ne h1, h2⟩
  · obtain ⟨b, o, w1, w2⟩ := h1
    obtain ⟨s, w3, w4, w5⟩ := h2
    exact R.sep j k a ⟨b, o, (get_none w1).2, (get_none w2).2⟩ ⟨s, (get_none w3).2, w4, (get_none w5).2⟩
theorem Stp.clr {F F' H H' : Hp} {ρ ρ' : Env} {σ σ' : St} (i : Nat) (S : Stp F ρ σ H F' ρ' σ' H') : Stp F ρ σ H F' (ρ'.set i none) (σ'.set i none) H' :=
  ⟨S.mono, S.newF, S.keep, S.dom, fun k a ⟨sv, h1, h2, h3⟩ => S.has k a ⟨sv, (get_none h1).2, h2, (get_none h3).2⟩, fun k b o a h1 h2 => S.own k b o a (get_none h1).2 (get_none h2).2, fun k o a h1 h2 => S.lks k o a (get_none h1).2 (get_none h2).2⟩
theorem RetR.wi {B : Bas} {I' : Addr → Value → Option Addr → Prop} {F' H H' : Hp} {ρ : Env} {σ : St} {v : V} {r : RV} (h : RetR B F' ρ σ H H' v r) : RetR (B.wi I') F' ρ σ H H' v r := by
  cases r with
  | fz d => exact Rep.wi h
  | sl i => exact h
  | fr o => obtain ⟨a, e, h1, h2, h3⟩ := h; exact ⟨a, e, h1, h2.wi, h3⟩

def clr (i : Nat) : SOut → SOut
  | .nx ρ => if noX (ρ.set i none) then .nx (ρ.set i none) else .no
  | .rt r ρ => if noX (ρ.set i none) then .rt r (ρ.set i none) else .no
  | .bk ρ => if noX (ρ.set i none) then .bk (ρ.set i none) else .no
  | .ct ρ => if noX (ρ.set i none) then .ct (ρ.set i none) else .no
  | .ex _ _ _ => .no
  | .no => .no
def sTry (gb : SSem) (i : Nat) (tab : List (Str × Bool)) (gs : SSem) : SSem := fun ρ => match gb ρ with
  | .ex c fs ρ1 => if noX ρ1 then (match tab.lookup c with
    | some true => clr i (gs (ρ1.set i (some (.xn c fs))))
    | some false => .ex c fs ρ1
    | none => .no) else .no
  | o => o
section
variable {X : Cx} {I : Addr → Value → Option Addr → Prop} {W : WX} {x n : Str} {c : Value} {i : Nat} {body suite : List Stmt} {b₀ : Stmt} {np pos pos' : Pos} {gb gs : SSem} {tab : List (Str × Bool)}
theorem ss_try (hs : X.stack = X.env :: X.outer) (hf : X.env.frame = some X.env.locals) (hN : X.N.Nodup) (hi : X.N[i]? = some n) (hln : X.env.kindOf n = some .local) (hc : Names X x c) (tk : Takes X W)
    (T : ∀ p ∈ tab, ∃ C, X.mg p.1 = some (.ref C) ∧ PySem.W.exmOne X.K (.ref C) c = some p.2)
    (hb : ∀ (W : WX) (pn : List (Addr × Obj)) (xe : Value → Shared → Prop), Takes (X.tr pn xe) W → PassesOwn (model X.prog X.w) X.A X.env xe → SSs (X.tr pn xe) I W body gb)
    (hsu : ∀ (a : Addr) (oe : Obj) (cls : Value) (d : Option Addr) (pn : List (Addr × Obj)), Zc cls d oe → (∃ vs, oe.data = .fields vs) → SSs (X.suite a ((a, oe) :: pn)) (Is a cls d) (fun _ _ _ _ => False) (b₀ :: suite) gs) :
    SS X I W (.Try body [.ExceptHandler (some (.Name x np)) (some n) (b₀ :: suite) pos'] [] [] pos) (sTry gb i tab gs) := by
  let tb : WX → TS := fun W D σ H => ∀ pn xe tk po, (hb W pn xe tk po).choose D σ H
  let ts : Addr → Value → Option Addr → TS := fun a cls d D σ H => ∀ oe pn hz hf, (hsu a oe cls d pn hz hf).choose D σ H
  refine ⟨_, ps_try_as (tb := tb) (ts := ts) hs hf hN hi hln hc tk (fun W pn xe tk po => ⟨fun pins s σ H D I h => (hb W pn xe tk po).choose_spec.1.run pins s σ H D I (h pn xe tk po)⟩)
    (fun a oe cls d pn hz hf => ⟨fun pins s σ H D I h => (hsu a oe cls d pn hz hf).choose_spec.1.run pins s σ H D I (h oe pn hz hf)⟩), fun F ρ σ H R E hq pn xe tk po => ?_⟩
  refine (hb _ pn xe tk po).choose_spec.2 F ρ σ H R E ?_
  unfold sTry at hq
  cases e : gb ρ with
  | nx ρ1 => rw [e] at hq; exact hq
  | rt r ρ1 => rw [e] at hq; exact hq
  | bk ρ1 => rw [e] at hq; exact hq
  | ct ρ1 => rw [e] at hq; exact hq
  | no => rw [e] at hq; exact hq
  | ex cn fs ρ1 =>
    rw [e] at hq
    refine fun F1 σ1 H1 cls dd S1 R1 xr => ?_
    dsimp only at hq
    by_cases hx : noX ρ1 = true
    · rw [if_pos hx] at hq
      cases hl : tab.lookup cn with
      | none => rw [hl] at hq; exact hq.elim
      | some b =>
        rw [hl] at hq
        obtain ⟨C, g, hex⟩ := T _ (mem_of_lk hl)
        have xr0 := xr
        obtain ⟨C', g', rfl, hdd⟩ := xr
        have gg : (some (Value.ref C') : Option Value) = some (.ref C) := g'.symm.trans g
        injection gg with gg; injection gg with gg; subst gg
        refine ⟨b, hex, fun hb1 a ha oe pn hz hfl => ?_, fun hb0 => ?_⟩
        · subst hb1
          -- the suite
          have hsv : SvR (bas X (Is a (.ref C') dd)) F1 H1 (.ref a) (.xn cn fs) := by
            refine ⟨a, C', dd, ?_⟩
            rcases hdd with ⟨z1, z2⟩ | ⟨e', vs, z1, z2, z3⟩
            · exact ⟨[], rfl, g, ⟨rfl, rfl, rfl⟩, .inl ⟨z1, z2⟩⟩
            · exact ⟨vs, rfl, g, ⟨rfl, rfl, rfl⟩, .inr ⟨e', z1, z2, z3.wi⟩⟩
          obtain ⟨R2, S2⟩ := Rel.put (i := i) (B := bas X (Is a (.ref C') dd)) (Rel.wiN (I' := Is a (.ref C') dd) hx R1) S1 hsv (fun z => nomatch z)
          refine (hsu a oe (.ref C') dd pn hz hfl).choose_spec.2 F1 _ _ H1 R2 _ ?_
          cases eg : gs (ρ1.set i (some (.xn cn fs))) with
          | nx ρ2 =>
            simp only [eg, clr] at hq
            split at hq
            · rename_i hx2
              exact fun F' σ' H' S' R' => hq F' _ H' ((S2.trans S').clr i) (Rel.wiN (B := bas X (Is a (.ref C') dd)) (I' := I) hx2 (R'.clr i))
            · exact hq.elim
          | bk ρ2 =>
            simp only [eg, clr] at hq
            split at hq
            · rename_i hx2
              exact fun F' σ' H' S' R' => hq F' _ H' ((S2.trans S').clr i) (Rel.wiN (B := bas X (Is a (.ref C') dd)) (I' := I) hx2 (R'.clr i))
            · exact hq.elim
          | ct ρ2 =>
            simp only [eg, clr] at hq
            split at hq
            · rename_i hx2
              exact fun F' σ' H' S' R' => hq F' _ H' ((S2.trans S').clr i) (Rel.wiN (B := bas X (Is a (.ref C') dd)) (I' := I) hx2 (R'.clr i))
            · exact hq.elim
          | rt r ρ2 =>
            simp only [eg, clr] at hq
            split at hq
            · rename_i hx2
              exact fun F' σ' H' v S' R' x => hq F' _ H' v ((S2.trans S').clr i) (Rel.wiN (B := bas X (Is a (.ref C') dd)) (I' := I) hx2 (R'.clr i)) (RetR.wi (B := bas X (Is a (.ref C') dd)) (I' := I) (x.back S2))
            · exact hq.elim
          | ex c2 fs2 ρ2 => simp only [eg, clr] at hq; exact hq.elim
          | no => simp only [eg, clr] at hq; exact hq.elim
        · subst hb0
          exact hq F1 σ1 H1 _ dd S1 R1 xr0
    · rw [if_neg hx] at hq; exact hq.elim
end
end DL
end
section
/-! E8: instances: fields read, fields stored, making. -/
namespace DL
open PySem PySem.Spec L2

/-! ### a field read -/
def rdF (ρ : Env) : RV → Option (Str × List (Str × D))
  | .fz (.ins c fs) => some (c, fs)
  | .fz _ => none
  | .fr (.ob c fs) => some (c, fs)
  | .fr _ => none
  | .sl i => match ρ[i]? with
    | some (some (.fz (.ins c fs))) => some (c, fs)
    | some (some (.ow _ (.ob c fs))) => some (c, fs)
    | some (some (.lk (.ob c fs))) => some (c, fs)
    | _ => none
theorem rdF_ok {B : Bas} {F H H0 : Hp} {ρ : Env} {σ : St} {v : V} {r : RV} {c : Str} {fs : List (Str × D)} (R : Rel B F ρ σ H) (h : RvR B F ρ σ H0 H v r) (e : rdF ρ r = some (c, fs)) :
    ∃ a C dx vs, v = .ref a ∧ B.mg c = some (.ref C) ∧ H a = some (.ins C dx vs) ∧ RepF B F vs fs := by
  have fz : Rep B F v (.ins c fs) → ∃ a C dx vs, v = .ref a ∧ B.mg c = some (.ref C) ∧ H a = some (.ins C dx vs) ∧ RepF B F vs fs := fun h => by
    cases h with
    | ins g hi _ hf => exact ⟨_, _, _, _, rfl, g, R.ext _ _ hi, hf⟩
  have ob : ∀ {a}, RepO B F H a (.ob c fs) → ∃ a' C dx vs, V.ref a = .ref a' ∧ B.mg c = some (.ref C) ∧ H a' = some (.ins C dx vs) ∧ RepF B F vs fs := fun {a} ⟨C, dx, vs, g, h1, _, h3⟩ => ⟨a, C, dx, vs, rfl, g, h1, h3⟩
  cases r with
  | fz d => cases d <;> simp only [rdF] at e <;> cases e; exact fz h
  | fr o =>
    cases o <;> simp only [rdF] at e <;> cases e
    obtain ⟨a, rfl, _, _, ho, _⟩ := h
    exact ob ho
  | sl i =>
    obtain ⟨h1, sv, h2⟩ := h
    obtain ⟨v', h3, h4⟩ := R.sl i sv h2
    rw [h1] at h3; cases h3
    simp only [rdF, h2] at e
    cases sv with
    | fz d => cases d <;> simp only at e <;> cases e; exact fz h4
    | ow b o =>
      cases o <;> simp only at e <;> cases e
      obtain ⟨a, rfl, _, ho⟩ := h4
      exact ob ho
    | lk o =>
      cases o <;> simp only at e <;> cases e
      obtain ⟨a, rfl, _, ho⟩ := h4
      exact ob ho
    | xn c fs => cases e
    | dd => cases e
def eFld (f : Str) (cs : List Str) (g : ESem) : ESem := fun ρ => (g ρ).bind fun r ρ1 => match rdF ρ1 r with
  | some (c, fs) => if c ∈ cs then (match fs.lookup f with | some d => .ok (.fz d) ρ1 | none => .no) else .no
  | none => .no
def ClsOk (K : PySem.W.Frag) (mg : Str → Option Value) (f : Str) (cs : List Str) : Prop := ∀ c ∈ cs, ∃ C, mg c = some (.ref C) ∧ Cls K C ∧ NoAttr K C f
section
variable {X : Cx} {I : Addr → Value → Option Addr → Prop} {W : WX} {e : Expr} {g : ESem} {f : Str} {cs : List Str} {pos pos' p : Pos}
theorem se_fld (T : ClsOk X.K X.mg f cs) (h : SE X I W e g) (hb : attributeBase e f X.env (eval e X.env) = eval e X.env := by rfl) : SE X I W (.Attribute e f pos) (eFld f cs g) := by
  obtain ⟨t, p, m⟩ := h
  refine ⟨_, pe_fld p hb, fun F ρ σ H R Q hq => ?_⟩
  rw [eFld, Out.OK_bind] at hq
  refine m F ρ σ H R _ (hq.imp (fun r ρ1 hq F1 H1 v S1 L1 R1 r1 => ?_) fun _ _ _ z => z)
  cases e1 : rdF ρ1 r with
  | none => rw [e1] at hq; exact hq.elim
  | some z =>
    obtain ⟨c, fs⟩ := z
    rw [e1] at hq
    dsimp only at hq
    by_cases hc : c ∈ cs
    · rw [if_pos hc] at hq
      cases e2 : fs.lookup f with
      | none => rw [e2] at hq; exact hq.elim
      | some d =>
        rw [e2] at hq
        obtain ⟨a, C, dx, vs, rfl, gC, hH, hf⟩ := rdF_ok R1 r1 e1
        obtain ⟨C', g', k, n⟩ := T c hc
        have gg : (some (Value.ref C) : Option Value) = some (.ref C') := gC.symm.trans g'
        injection gg with gg; injection gg with gg; subst gg
        obtain ⟨w, hw, hr⟩ := hf.get e2
        exact ⟨a, C, dx, vs, w, rfl, hH, k, n, hw, hq F1 H1 w S1 L1 R1 hr⟩
    · rw [if_neg hc] at hq; exact hq.elim
/-! ### self.f = e -/
def sFldS (k : Nat) (f : Str) (cs : List Str) (g : ESem) : SSem := fun ρ => (eF g ρ).sbind fun d ρ1 => match ρ1[k]? with
  | some (some (.ow b (.ob c fs))) => if c ∈ cs ∧ fs.length < 1000 then .nx (ρ1.set k (some (.ow b (.ob c (putD f d fs))))) else .no
  | _ => .no
theorem ss_fld {k : Nat} {x : Str} (T : ClsOk X.K X.mg f cs) (h : SE X I W e g) (hv : PE X (.Name x p) (tVar k)) (hs : swapsWith e (some (.Attribute (.Name x p) f pos')) pos.line X.env = pure false := by rfl) : SS X I W (.Assign [.Attribute (.Name x p) f pos'] e pos) (sFldS k f cs g) := by
  obtain ⟨t, p, m⟩ := h
  refine ⟨_, ps_fld hv p hs, fun F ρ σ H R E hq => ?_⟩
  rw [sFldS, eF, Out.OK_sbind, Out.OK_bind] at hq
  refine m F ρ σ H R _ (hq.imp (fun r ρ1 hq F1 H1 v S1 L1 R1 r1 => ?_) fun _ _ _ z => PostX.ofZ z)
  cases e1 : frz ρ1 r with
  | none => rw [e1] at hq; exact hq.elim
  | some z =>
    obtain ⟨d, ρ2⟩ := z
    rw [e1] at hq
    obtain ⟨F2, S2, _, R2, r2, _⟩ := frz_ok R1 S1 r1 e1
    dsimp only [Out.OK] at hq
    cases e2 : ρ2[k]? with
    | none => rw [e2] at hq; exact hq.elim
    | some o =>
      cases o with
      | none => rw [e2] at hq; exact hq.elim
      | some sv =>
        cases sv with
        | ow b o =>
          cases o with
          | lst xs => rw [e2] at hq; exact hq.elim
          | ob c fs =>
            rw [e2] at hq
            dsimp only at hq
            by_cases hc : c ∈ cs ∧ fs.length < 1000
            · rw [if_pos hc] at hq
              obtain ⟨v', g1, a, ev, hf, C, dx, vs, gC, hH, hdx, hR⟩ := R2.sl k _ e2
              subst ev
              obtain ⟨C', g', kk, n⟩ := T c hc.1
              have gg : (some (Value.ref C) : Option Value) = some (.ref C') := gC.symm.trans g'
              injection gg with gg; injection gg with gg; subst gg
              refine ⟨_, g1, a, C, dx, vs, rfl, hH, kk, n, by rw [hR.length]; exact hc.2, ?_⟩
              obtain ⟨R3, S3⟩ := R2.mutate (o' := .ob c (putD f d fs)) (u := .ins C dx (putF f v vs)) e2 g1 ⟨C, dx, _, gC, upd_same, hdx, hR.put r2⟩
              exact hq F2 σ _ (S2.trans S3) R3
            · rw [if_neg hc] at hq; exact hq.elim
        | _ => rw [e2] at hq; exact hq.elim
end
end DL
end
section
/-! E9: calls with defaults; instances made. -/
namespace DL
open PySem PySem.Spec L2

/-! ### a slot for the while of a call -/
section
variable {B : Bas} {F0 H0 F H : Hp} {ρ0 ρ : Env} {σ0 σ : St} {x : Addr} {o : OB}
theorem app_get {α : Type} {l : List α} {a : α} {k : Nat} {y : α} (h : (l ++ [a])[k]? = some y) : (k < l.length ∧ l[k]? = some y) ∨ (k = l.length ∧ y = a) := by
  by_cases hk : k < l.length
  · rw [List.getElem?_append_left hk] at h; exact .inl ⟨hk, h⟩
  · rw [List.getElem?_append_right (by omega)] at h
    have : k - l.length = 0 := by
      cases q : k - l.length with
      | zero => rfl
      | succ n => rw [q] at h; simp at h
    rw [this] at h
    simp only [List.getElem?_cons_zero, Option.some.injEq] at h
    exact .inr ⟨by omega, h.symm⟩
theorem get_app1 {α : Type} {l : List α} {a : α} {k : Nat} {y : α} (h : l[k]? = some y) : (l ++ [a])[k]? = some y := by
  rw [List.getElem?_append_left (List.getElem?_eq_some_iff.mp h).1]; exact h
theorem Rel.tmp (R : Rel B F ρ σ H) (S : Stp F0 ρ0 σ0 H0 F ρ σ H) (hf : F x = none) (ho : RepO B F H x o) (hn : H0 x = none) (hs : ∀ k, ¬ HasAt ρ σ k x) :
    Rel B F (ρ ++ [some (.ow false o)]) (σ ++ [some (.ref x)]) H ∧ Stp F0 ρ0 σ0 H0 F (ρ ++ [some (.ow false o)]) (σ ++ [some (.ref x)]) H := by
  have hl := R.len
  have hasC : ∀ k a, HasAt (ρ ++ [some (.ow false o)]) (σ ++ [some (.ref x)]) k a → (k < ρ.length ∧ HasAt ρ σ k a) ∨ (k = ρ.length ∧ a = x) := fun k a ⟨sv, h1, h2, h3⟩ => by
    rcases app_get h1 with ⟨k1, h1⟩ | ⟨k1, h1⟩
    · rcases app_get h3 with ⟨_, h3⟩ | ⟨k2, _⟩
      · exact .inl ⟨k1, sv, h1, h2, h3⟩
      · omega
    · rcases app_get h3 with ⟨k2, _⟩ | ⟨_, h3⟩
      · omega
      · cases h3; exact .inr ⟨k1, rfl⟩
  refine ⟨⟨R.ext, by simp [hl], fun k sv h => ?_, fun j k a h1 h2 => ?_⟩, ⟨S.mono, S.newF, S.keep, S.dom, fun k a h => ?_, fun k b o' a h1 h2 => ?_, fun k o' a h1 h2 => ?_⟩⟩
  · rcases app_get h with ⟨_, h⟩ | ⟨k1, h⟩
    · obtain ⟨v, g1, g2⟩ := R.sl k sv h
      exact ⟨v, get_app1 g1, g2⟩
    · cases h
      exact ⟨.ref x, by rw [k1, ← hl]; simp, x, rfl, hf, ho⟩
  · rcases hasC k a h2 with ⟨k1, h2⟩ | ⟨k1, e⟩
    · obtain ⟨b, o', w1, w2⟩ := h1
      rcases app_get w1 with ⟨j1, w1⟩ | ⟨j1, w1⟩
      · rcases app_get w2 with ⟨_, w2⟩ | ⟨q, _⟩
        · exact R.sep j k a ⟨b, o', w1, w2⟩ h2
        · omega
      · rcases app_get w2 with ⟨q, _⟩ | ⟨_, w2⟩
        · omega
        · cases w2; exact absurd h2 (hs k)
    · subst e
      rcases hasC j a h1.has with ⟨_, q⟩ | ⟨q, _⟩
      · exact absurd q (hs j)
      · rw [q, k1]
  · rcases hasC k a h with ⟨_, q⟩ | ⟨_, q⟩
    · exact S.has k a q
    · subst q; exact .inl hn
  · rcases app_get h1 with ⟨j1, w1⟩ | ⟨j1, w1⟩
    · rcases app_get h2 with ⟨_, w2⟩ | ⟨q, _⟩
      · exact S.own k b o' a w1 w2
      · omega
    · cases w1
      rcases app_get h2 with ⟨q, _⟩ | ⟨_, w2⟩
      · omega
      · cases w2; exact .inl ⟨rfl, hn⟩
  · rcases app_get h1 with ⟨j1, w1⟩ | ⟨j1, w1⟩
    · rcases app_get h2 with ⟨_, w2⟩ | ⟨q, _⟩
      · exact S.lks k o' a w1 w2
      · omega
    · cases w1
theorem Rel.untmp {so : Option SV} {vo : Option V} (R : Rel B F (ρ ++ [so]) (σ ++ [vo]) H) : Rel B F ρ σ H := by
  have hl : σ.length = ρ.length := by have := R.len; simp at this; exact this
  refine ⟨R.ext, hl, fun k sv h => ?_, fun j k a ⟨b, o, h1, h2⟩ ⟨sv, h3, h4, h5⟩ => R.sep j k a ⟨b, o, get_app1 h1, get_app1 h2⟩ ⟨sv, get_app1 h3, h4, get_app1 h5⟩⟩
  obtain ⟨v, h1, h2⟩ := R.sl k sv (get_app1 h)
  have hk := (List.getElem?_eq_some_iff.mp h).1
  rw [List.getElem?_append_left (by omega)] at h1
  exact ⟨v, h1, h2⟩
theorem Stp.untmp {so : Option SV} {vo : Option V} (S : Stp F0 ρ0 σ0 H0 F (ρ ++ [so]) (σ ++ [vo]) H) : Stp F0 ρ0 σ0 H0 F ρ σ H :=
  ⟨S.mono, S.newF, S.keep, S.dom, fun k a ⟨sv, h1, h2, h3⟩ => S.has k a ⟨sv, get_app1 h1, h2, get_app1 h3⟩, fun k b o a h1 h2 => S.own k b o a (get_app1 h1) (get_app1 h2), fun k o a h1 h2 => S.lks k o a (get_app1 h1) (get_app1 h2)⟩
theorem PR.tmp {so : Option SV} {vo : Option V} : ∀ {vs : List V} {rs : List RV}, PR B F ρ σ vs rs → PR B F (ρ ++ [so]) (σ ++ [vo]) vs rs
  | _, _, .nil => .nil
  | _, _, .fz h r => .fz h r.tmp
  | _, _, .sl h1 h2 r => .sl (get_app1 h1) (get_app1 h2) r.tmp
theorem PR.slots : ∀ {vs : List V} {rs : List RV}, PR B F ρ σ vs rs → ∀ i ∈ slotsOf rs, i < ρ.length
  | _, _, .nil, i, h => by cases h
  | _, _, .fz _ r, i, h => r.slots i h
  | _, _, .sl (i := j) h1 h2 r, i, h => by
    rcases List.mem_cons.mp h with e | h
    · subst e; exact (List.getElem?_eq_some_iff.mp h2).1
    · exact r.slots i h
theorem args_tmp {so : Option SV} : ∀ {vs : List V} {rs : List RV}, PR B F ρ σ vs rs → argsOf (ρ ++ [so]) rs = argsOf ρ rs
  | _, _, .nil => rfl
  | _, _, .fz _ r => by simp only [argsOf, argSV, args_tmp r]
  | _, _, .sl (i := j) h1 h2 r => by simp only [argsOf, argSV, args_tmp r, get_app1 h2, h2]
end
theorem back_app {so : Option SV} : ∀ (rs : List RV) (ρ ρa : Env), (∀ i ∈ slotsOf rs, i < ρ.length) → back (ρ ++ [so]) rs ρa = back ρ rs ρa ++ [so]
  | [], _, _, _ => rfl
  | r :: rs, ρ, ρa, h => by
    have e : back1 (ρ ++ [so]) r ρa.head? = back1 ρ r ρa.head? ++ [so] := by
      unfold back1
      cases r with
      | sl i =>
        have hi : i < ρ.length := h i (List.mem_cons_self ..)
        dsimp only
        rw [List.getElem?_append_left hi]
        cases ρ[i]? with
        | none => rfl
        | some o =>
          cases o with
          | none => rfl
          | some sv => cases sv <;> first | rfl | exact List.set_append_left _ _ hi
      | _ => rfl
    rw [back, back, e, back_app rs]
    intro i hi
    have hb1 : (back1 ρ r ρa.head?).length = ρ.length := back_len [r] ρ ρa
    rw [hb1]
    refine h i ?_
    cases r with
    | sl j => exact List.mem_cons_of_mem _ hi
    | _ => exact hi
theorem slots_app : ∀ {rs : List RV} {ds : List D}, slotsOf (rs ++ ds.map .fz) = slotsOf rs
  | [], [] => rfl
  | [], d :: ds => slots_app (rs := []) (ds := ds)
  | .sl i :: rs, ds => by show i :: slotsOf (rs ++ ds.map .fz) = i :: slotsOf rs; rw [slots_app]
  | .fz _ :: rs, ds => slots_app (rs := rs)
  | .fr _ :: rs, ds => slots_app (rs := rs)
theorem PR.ofL {B : Bas} {F : Hp} {ρ : Env} {σ : St} : ∀ {vs : List V} {ds : List D}, RepL B F vs ds → PR B F ρ σ vs (ds.map .fz)
  | _, _, .nil => .nil
  | _, _, .cons h r => .fz h (PR.ofL r)

/-! ### a call, defaults behind -/
def eCallD (m : FSem) (dds : List D) (fs : List ESem) : ESem := fun ρ => (eP fs ρ).bind fun rs ρ1 => match argsOf ρ1 (rs ++ dds.map .fz) with
  | some as => if (slotsOf rs).Nodup then (match m as with
    | .ok r ρa => .ok r (back ρ1 (rs ++ dds.map .fz) ρa)
    | .ex c fs ρa => .ex c fs (back ρ1 (rs ++ dds.map .fz) ρa)
    | .no => .no) else .no
  | none => .no
section
variable {X : Cx} {I : Addr → Value → Option Addr → Prop} {W : WX} {k : Nat} {f : Addr} {fd : FuncData} {ps : List Str} {x : Str} {p pos : Pos} {e : Expr} {es : List Expr} {fs : List ESem} {m : FSem} {n : Nat} {dvs : List V} {ds : List Value} {dds : List D}
theorem se_callD (G : FnOk X.prog X.w X.K X.mg X.base (L2.CX X.prog X.w) k f fd ps (spOf (bas X I0) n m)) (hr : Room k X.A) (hg : Gl X x) (hm : X.mg x = some (.ref f)) (hk : PySem.W.keepIn X.K (.ref f) = true) (hb : Binds X.K fd ps ds) (hd : Vals dvs ds) (hdr : ∀ F, RepL (bas X I) F dvs dds) (tk : Takes X W)
    (ha : SA X I W (e :: es) (eP fs)) (hn : fs.length + dds.length = n) (hdb : (x == ("__debug__" : Str)) = false := by decide) (he : starEach (e :: es) X.env = (false, eval e X.env) :: starEach es X.env := by rfl) (hpl : (backTo pos (starEach es X.env)).any (·.1) = false := by rfl) :
    SE X I W (.Call (.Name x p) (e :: es) [] pos) (eCallD m dds fs) := by
  obtain ⟨t, q, mm⟩ := ha
  refine ⟨_, pe_callSD (E := fun σ cls d H => W cls d σ H) G hr hg hm hk hb hd (fun σ => passAt tk σ) q hdb he hpl, fun F ρ σ H R Q hq => ?_⟩
  rw [eCallD, Out.OK_bind] at hq
  cases ee : eP fs ρ with
  | no => rw [ee] at hq; exact hq.elim
  | ex c gs ρ1 => exact mm F ρ σ H R _ (by rw [ee] at hq ⊢; exact hq)
  | ok rs ρ1 =>
    refine mm F ρ σ H R _ ?_
    rw [ee] at hq ⊢
    refine fun F1 H1 vs S1 L1 R1 pr => ?_
    show spOf (bas X I0) n m (vs ++ dvs) H1 Q (fun cls d H => W cls d σ H)
    cases ea : argsOf ρ1 (rs ++ dds.map .fz) with
    | none => simp only [Out.OK, ea] at hq
    | some as =>
      simp only [Out.OK, ea] at hq
      by_cases nd : (slotsOf rs).Nodup
      · rw [if_pos nd] at hq
        exact sem_call (t := t) R S1 L1 R1 (pr.app (PR.ofL (hdr F1))) ea (by rw [slots_app]; exact nd) hq (by rw [args_len ea, List.length_append, List.length_map, eP_len ee]; exact hn)
      · rw [if_neg nd] at hq; exact hq.elim
end

/-! ### an instance made -/
section
variable {X : Cx} {CX : CXT} {k : Nat} {f C : Addr} {fd : FuncData} {ps : List Str} {sp : Sp} {dvs : List V} {ds : List Value} {E : St → XK} {x : Str} {p pos : Pos} {e : Expr} {es : List Expr} {t : TA}
theorem run_makeAt {pins : List (Addr × Obj)} {σ : St} {H : Hp} {s : Shared} {Q : VK} {us : List Value} {vs : List V} (M : Mk X.K C f) (G : FnOk X.prog X.w X.K X.mg X.base CX k f fd ps sp) (hr : Room (k + 1) X.A) (hb : Binds X.K fd ps ds) (hd : Vals dvs ds) (hx : PassesAt CX X σ (E σ)) (I : Inv X pins σ H s) (r : Vals vs us)
    (h : ∀ x dx, H x = none → H dx = none → dx ≠ x → sp (.ref x :: (vs ++ dvs)) (upd (upd H dx (.own x)) x (.ins C dx [])) (fun v H2 => v = .non ∧ Q (.ref x) H2) (E σ)) : wpAny (model X.prog X.w) X.A (call (.ref C) us) (EP X pins σ Q) X.xe s := by
  have I2 := Inv.made (C := C) I
  have hq := h _ _ (I.hok.fresh (Nat.le_succ s.heap.objs.size)) (I.hok.fresh (Nat.le_refl s.heap.objs.size)) (Nat.ne_of_lt (Nat.lt_succ_self _))
  have r2 : Vals (V.ref (s.heap.objs.size + 1) :: (vs ++ dvs)) (Value.ref (s.heap.objs.size + 1) :: (us ++ ds)) := .cons rfl (r.append hd)
  have hl : (Value.ref (s.heap.objs.size + 1) :: us ++ ds).length = ps.length := r2.length.symm.trans (G.len _ _ _ _ hq)
  have run := G.run _ X.stack _ _ ⟨Value.ref (s.heap.objs.size + 1) :: us, []⟩ _ _ _ (E σ) (hr.make C us []) (I2.env0.make C us []) (hb _ (Value.ref (s.heap.objs.size + 1) :: us) I2.kIn hl) r2 hq
  refine wpAny_call (make_map (f := f) I.kIn M.makes M.init (beq_iff_eq.mp M.fn) (codeAny_mono run fun r s' hq' => ?_))
  match r, hq' with
  | .error e, hq' => exact hx pins _ _ e s' I2 hq'
  | .ok (.ret u), hq' =>
    obtain ⟨v, H', I3, rv, ev, q3⟩ := I2.after hq'
    subst ev
    exact ⟨rv, ⟨V.ref (s.heap.objs.size + 1), H', I3, rfl, q3⟩⟩
  | .ok .next, hq' => exact False.elim hq'
  | .ok .brk, hq' => exact False.elim hq'
  | .ok .cont, hq' => exact False.elim hq'
def tMakeS (C : Addr) (sp : Sp) (dvs : List V) (E : St → XK) (t : TA) : TE := fun σ H Q => t σ H fun vs H1 => ∀ x dx, H1 x = none → H1 dx = none → dx ≠ x → sp (.ref x :: (vs ++ dvs)) (upd (upd H1 dx (.own x)) x (.ins C dx [])) (fun v H2 => v = .non ∧ Q (.ref x) H2) (E σ)
theorem pe_makeS (M : Mk X.K C f) (G : FnOk X.prog X.w X.K X.mg X.base CX k f fd ps sp) (hr : Room (k + 1) X.A) (hg : Gl X x) (hm : X.mg x = some (.ref C)) (hb : Binds X.K fd ps ds) (hd : Vals dvs ds) (hx : ∀ σ, PassesAt CX X σ (E σ))
    (ha : PA X (e :: es) t) (hdb : (x == ("__debug__" : Str)) = false := by decide) (he : starEach (e :: es) X.env = (false, eval e X.env) :: starEach es X.env := by rfl) (hpl : (backTo pos (starEach es X.env)).any (·.1) = false := by rfl) :
    PE X (.Call (.Name x p) (e :: es) [] pos) (tMakeS C sp dvs E t) :=
  ⟨fun pins s σ H Q I h => wpAny_Call_Name_kw (ld_glob I hg hm (PySem.W.callWith_K (h₀ := X.base) I.ok.mod.kin M.kp (thn (ha.run pos pins s σ H _ I h) fun us s1 ⟨vs, H1, I1, r, q⟩ => ⟨I1.kIn, run_makeAt M G hr hb hd (hx σ) I1 r q⟩) he hpl) hdb)⟩
end
def madeOf (c : Str) (r : RV) (s : Option (Option SV)) : Option (List (Str × D)) := match r, s with
  | .fz .non, some (some (.ow true (.ob c' fs))) => if c' = c then some fs else none
  | _, _ => none
theorem madeOf_some {c : Str} {r : RV} {s : Option (Option SV)} {fs : List (Str × D)} (h : madeOf c r s = some fs) : r = .fz .non ∧ s = some (some (.ow true (.ob c fs))) := by
  unfold madeOf at h
  split at h
  · split at h
    · rename_i e; cases h; rw [e]; exact ⟨rfl, rfl⟩
    · cases h
  · cases h
def eMake (c : Str) (m : FSem) (dds : List D) (fs : List ESem) : ESem := fun ρ => (eP fs ρ).bind fun rs ρ1 => match argsOf ρ1 (rs ++ dds.map .fz) with
  | some as => if (slotsOf rs).Nodup then (match m (.ow true (.ob c []) :: as) with
    | .ok r ρa => (match madeOf c r ρa.head? with
      | some fs => .ok (.fz (.ins c fs)) (back ρ1 (rs ++ dds.map .fz) ρa.tail)
      | none => .no)
    | .ex c fs ρa => .ex c fs (back ρ1 (rs ++ dds.map .fz) ρa.tail)
    | .no => .no) else .no
  | none => .no
end DL
end
section
/-! E10: an instance made. -/
namespace DL
open PySem PySem.Spec L2
section
variable {X : Cx} {I : Addr → Value → Option Addr → Prop} {W : WX} {k : Nat} {f C : Addr} {fd : FuncData} {ps : List Str} {x : Str} {p pos : Pos} {e : Expr} {es : List Expr} {fs : List ESem} {m : FSem} {n : Nat} {dvs : List V} {ds : List Value} {dds : List D}
theorem se_make (M : Mk X.K C f) (G : FnOk X.prog X.w X.K X.mg X.base (L2.CX X.prog X.w) k f fd ps (spOf (bas X I0) (n + 1) m)) (hr : Room (k + 1) X.A) (hg : Gl X x) (hm : X.mg x = some (.ref C)) (hb : Binds X.K fd ps ds) (hd : Vals dvs ds) (hdr : ∀ F, RepL (bas X I) F dvs dds) (tk : Takes X W)
    (ha : SA X I W (e :: es) (eP fs)) (hn : fs.length + dds.length = n) (hdb : (x == ("__debug__" : Str)) = false := by decide) (he : starEach (e :: es) X.env = (false, eval e X.env) :: starEach es X.env := by rfl) (hpl : (backTo pos (starEach es X.env)).any (·.1) = false := by rfl) :
    SE X I W (.Call (.Name x p) (e :: es) [] pos) (eMake x m dds fs) := by
  obtain ⟨t, q, mm⟩ := ha
  refine ⟨_, pe_makeS (E := fun σ cls d H => W cls d σ H) M G hr hg hm hb hd (fun σ => passAt tk σ) q hdb he hpl, fun F ρ σ H R Q hq => ?_⟩
  rw [eMake, Out.OK_bind] at hq
  cases ee : eP fs ρ with
  | no => rw [ee] at hq; exact hq.elim
  | ex c gs ρ1 => exact mm F ρ σ H R _ (by rw [ee] at hq ⊢; exact hq)
  | ok rs ρ1 =>
    refine mm F ρ σ H R _ ?_
    rw [ee] at hq ⊢
    refine fun F1 H1 vs S1 L1 R1 pr => ?_
    cases ea : argsOf ρ1 (rs ++ dds.map .fz) with
    | none => simp only [Out.OK, ea] at hq
    | some as =>
      simp only [Out.OK, ea] at hq
      have nd : (slotsOf rs).Nodup := Classical.byContradiction fun nd => by rw [if_neg nd] at hq; exact hq
      rw [if_pos nd] at hq
      refine fun a dx hx hdx hne => ?_
      -- the new object, in a slot of its own
      obtain ⟨R2, S2⟩ := R1.alloc (u := .own a) hdx
      obtain ⟨R2, S2⟩ := R2.freeze (S1.trans S2) upd_same (noF R1 hdx) (S1.dom _ hdx) (nohas R1 hdx)
      have hx2 : upd H1 dx (.own a) a = none := by rw [upd_ne (Ne.symm hne)]; exact hx
      obtain ⟨R3, S3⟩ := R2.alloc (u := .ins C dx []) hx2
      have S3 := S2.trans S3
      have fa : upd F1 dx (.own a) a = none := noF R2 hx2
      have ro : RepO (bas X I) (upd F1 dx (.own a)) (upd (upd H1 dx (.own a)) a (.ins C dx [])) a (.ob x []) := ⟨C, dx, [], hm, upd_same, upd_same, .nil⟩
      obtain ⟨R4, S4⟩ := R3.tmp S3 fa ro (S1.dom _ hx) (nohas R2 hx2)
      have pr0 := pr.app (PR.ofL (hdr F1))
      have pr1 : PR (bas X I) (upd F1 dx (.own a)) ρ1 σ (vs ++ dvs) (rs ++ dds.map .fz) := pr0.next (fun c o g => by rw [upd_ne (ne_of_none g (noF R1 hdx))]; exact g) (Live.refl _)
      have gl : (ρ1 ++ [some (SV.ow false (.ob x []))])[ρ1.length]? = some (some (.ow false (.ob x []))) := by simp
      have gs : (σ ++ [some (V.ref a)])[ρ1.length]? = some (some (.ref a)) := by rw [← R1.len]; simp
      have pr2 : PR (bas X I) (upd F1 dx (.own a)) (ρ1 ++ [some (.ow false (.ob x []))]) (σ ++ [some (.ref a)]) (.ref a :: (vs ++ dvs)) (.sl ρ1.length :: (rs ++ dds.map .fz)) := .sl gs gl pr1.tmp
      have sl := pr1.slots
      have nd2 : (slotsOf (.sl ρ1.length :: (rs ++ dds.map .fz))).Nodup := by
        show (ρ1.length :: slotsOf (rs ++ dds.map .fz)).Nodup
        exact List.nodup_cons.mpr ⟨fun z => Nat.lt_irrefl _ (sl _ z), by rw [slots_app]; exact nd⟩
      have ea2 : argsOf (ρ1 ++ [some (.ow false (.ob x []))]) (.sl ρ1.length :: (rs ++ dds.map .fz)) = some (.ow true (.ob x []) :: as) := by
        simp only [argsOf, argSV, gl, args_tmp pr1, ea]
      have bk : ∀ ρa, back (ρ1 ++ [some (.ow false (.ob x []))]) (.sl ρ1.length :: (rs ++ dds.map .fz)) ρa = back ρ1 (rs ++ dds.map .fz) ρa.tail ++ [some (outSV ρa.head? false)] := fun ρa => by
        rw [back]
        have e1 : back1 (ρ1 ++ [some (.ow false (.ob x []))]) (.sl ρ1.length) ρa.head? = ρ1 ++ [some (outSV ρa.head? false)] := by
          unfold back1
          dsimp only
          rw [gl]
          dsimp only
          rw [List.set_append_right _ _ (Nat.le_refl _), Nat.sub_self]; rfl
        rw [e1, back_app _ _ _ sl]
      have aok := argsOf_ok ea2
      have R5 : Rel (bas X I0) (upd F1 dx (.own a)) (envOf (.ow true (.ob x []) :: as)) ((V.ref a :: (vs ++ dvs)).map some) (upd (upd H1 dx (.own a)) a (.ins C dx [])) := Rel.wi (B := bas X I) (I' := I0) aok (args_rel R4 pr2 nd2 ea2)
      have hlen : (SV.ow true (.ob x []) :: as).length = n + 1 := by
        rw [List.length_cons, args_len ea, List.length_append, List.length_map, eP_len ee, hn]
      refine ⟨_, _, hlen, aok, R5, ?_⟩
      cases em : m (.ow true (.ob x []) :: as) with
      | no => rw [em] at hq; exact hq.elim
      | ex c gs ρa =>
        rw [em] at hq
        refine fun F' H' cls dd f xr => ?_
        obtain ⟨S6, R6⟩ := call_back S4 R4 pr2 nd2 ea2 (FinR.wi (I' := I) f)
        rw [bk] at S6 R6
        exact hq F' H' cls dd S6.untmp R6.untmp (XR.wi (I' := I) xr)
      | ok r ρa =>
        rw [em] at hq
        refine fun F' H' v f r' => ?_
        obtain ⟨S6, R6⟩ := call_back S4 R4 pr2 nd2 ea2 (FinR.wi (I' := I) f)
        rw [bk] at S6 R6
        dsimp only at hq
        cases em2 : madeOf x r ρa.head? with
        | none => rw [em2] at hq; exact hq.elim
        | some gs2 =>
          rw [em2] at hq
          obtain ⟨e0, e1⟩ := madeOf_some em2
          rw [e1] at S6 R6
          have hv : v = .non := by subst e0; cases r'; rfl
          refine ⟨hv, ?_⟩
          have bl : (back ρ1 (rs ++ dds.map .fz) ρa.tail).length = ρ1.length := back_len _ _ _
          have gl2 : (back ρ1 (rs ++ dds.map .fz) ρa.tail ++ [some (outSV (some (some (SV.ow true (.ob x gs2)))) false)])[ρ1.length]? = some (some (.ow false (.ob x gs2))) := by
            rw [List.getElem?_append_right (by omega), bl, Nat.sub_self]; rfl
          obtain ⟨v6, g6, a6, e6, f6, C6, dx6, vs6, mg6, h6, own6, rf6⟩ := R6.sl _ _ gl2
          rw [gs] at g6
          injection g6 with g6; injection g6 with g6; subst g6
          injection e6 with e6; subst e6
          have noh : ∀ k, ¬ HasAt (back ρ1 (rs ++ dds.map .fz) ρa.tail) σ k a := fun k ⟨sv, q1, q2, q3⟩ => by
            have := R6.sep ρ1.length k a ⟨false, _, gl2, gs⟩ ⟨sv, get_app1 q1, q2, get_app1 q3⟩
            have := (List.getElem?_eq_some_iff.mp q1).1
            omega
          have h0 : H a = none := by
            rcases S6.own _ _ _ _ gl2 gs with ⟨_, z⟩ | ⟨o0, z, _⟩
            · exact z
            · have := (List.getElem?_eq_some_iff.mp z).1
              have := R.len; have := R1.len
              omega
          obtain ⟨R7, S7⟩ := R6.untmp.freeze S6.untmp h6 f6 h0 noh
          have mo : ∀ c o, F' c = some o → upd F' a (.ins C6 dx6 vs6) c = some o := fun c o g => by rw [upd_ne (ne_of_none g f6)]; exact g
          exact hq _ H' _ S7 (L1.trans back_live) R7 (.ins mg6 upd_same (mo _ _ own6) (rf6.mono mo))
end
end DL
end
section
/-! E11: == and != by an own __eq__, with either answer. -/
namespace DL
open PySem PySem.Spec L2

section
open PySem.W PyProof.Rows
variable {prog : Program} {w : World} {A : Around} {E : Value → Shared → Prop} {s : Shared} {K : Frag} {x C f : Addr} {ox : Obj} {od : Option Obj} {b tb : Value}
/-- a text's == behind != -/
theorem ne_K {Q : Value → Shared → Prop} (hu : A.units + 1 < cLine) (X : K.In s.heap) (I : InstAt s.heap x ox C od) (hb : Looks (model prog w) s.heap (typeOf b) tb) (hn : notFirst K C tb = true)
    (hne : findIn K (.ref C) "__ne__" = some (some (.builtin "object.__ne__"))) (hs : findIn K (.ref C) "__eq__" = some (some (.ref f))) (hf : isFn K (.ref f) = true) (hob : subIn K (.ref C) (.type "object") = some true)
    (h : wpAny (model prog w) A.in1 (call (.ref f) [.ref x, b]) (fun v s' => ∃ r, v = .bool r ∧ Q (.bool (!r)) s') E s) : wpAny (model prog w) A (richCompare .NotEq (.ref x) b) Q E s := by
  have S := F.cmp_object.ne
  have one : wpAny (model prog w) A (tryCompare (.ref x) "__ne__" b) (fun r s' => ∃ v, r = some v ∧ Q v s') E s := by
    unfold tryCompare
    refine wpAny_bind ?_
    simp only [callSpecialIfBound?, bindSpecialIfBound?]
    refine wpAny_holding (wpAny_bind (wpAny_bind (wpAny_bind (I.type.here ((looks_findIn X hne).here ?_)))))
    simp only [S.bind]
    refine wpAny_bind (wpAny_askSetting (wpAny_ite ?_))
    have run : wpAny (model prog w) A (call (.builtin "object.__ne__") [.ref x, b]) (fun v s' => ∃ r, v = .bool r ∧ Q (.bool r) s') E s := by
      refine wpAny_call (codeAny_call_builtin S.plain F.cmpEntry_ne (check_slot F.cmpKind_ne F.cmpSplit_ne (I.type.andThen (looks_subIn X hob)) (F.cmpArgs_ne _ _) ?_))
      unfold Builtin.«object.__ne__»
      refine wpAny_bind (wpAny_of_eq (a := ((Value.ref x : Value), [b])) (by first | rfl | (simp only [slotArgs]; rfl)) ?_)
      refine wpAny_bind (wpAny_cRoomFor hu ?_)
      refine wpAny_bind (ifBound_K X I hs hf (wpAny_mono h (fun v s' hv => ?_) fun _ _ e => e))
      obtain ⟨r, rfl, q⟩ := hv
      exact wpAny_bind (wpAny_truthy_bool (wpAny_pure ⟨!r, rfl, q⟩))
    have fin : wpAny (model prog w) A (call (.builtin "object.__ne__") ([.ref x] ++ [b]) >>= fun v => pure (some v)) (fun a s' => wpAny (model prog w) A (match a with
        | some .notImplemented | none => pure none
        | some v => pure (some v)) (fun r s' => ∃ v, r = some v ∧ Q v s') E s') E s :=
      wpAny_bind (wpAny_mono run (fun v s' hv => by obtain ⟨r, rfl, q⟩ := hv; exact wpAny_pure (wpAny_pure ⟨_, rfl, q⟩)) fun _ _ h' => h')
    split
    · exact wpAny_bind (wpAny_pure (wpAny_pure fin))
    · exact wpAny_tryCatch (wpAny_bind (wpAny_pure (wpAny_pure fin)))
  unfold richCompare
  simp only [oneThing_ref]
  refine wpAny_holding (wpAny_bind (wpAny_cRoomFor (Nat.lt_of_succ_lt hu) ?_))
  refine wpAny_bind (I.type.here (wpAny_bind (hb.here ?_)))
  split
  · rename_i q
    have e : subIn K tb (.ref C) = some false := by
      rcases Bool.or_eq_true_iff.mp hn with e | e
      · rw [beq_iff_eq.mp e] at q; simp at q
      · exact beq_iff_eq.mp e
    refine wpAny_bind ((looks_subIn X e).here ?_)
    simp only [Bool.false_eq_true, if_false]
    refine wpAny_bind (wpAny_mono one (fun r s' z => ?_) fun _ _ e => e)
    obtain ⟨v, rfl, hq⟩ := z
    exact wpAny_pure hq
  · refine wpAny_bind (wpAny_pure ?_)
    simp only [Bool.false_eq_true, if_false]
    refine wpAny_bind (wpAny_mono one (fun r s' z => ?_) fun _ _ e => e)
    obtain ⟨v, rfl, hq⟩ := z
    exact wpAny_pure hq
end
end DL
end
section
/-! E12: == and != by an own __eq__: the rules. -/
namespace DL
open PySem PySem.Spec L2

structure OwnEqC (K : PySem.W.Frag) (C f : Addr) : Prop where
  eq : PySem.W.findIn K (.ref C) "__eq__" = some (some (.ref f))
  ne : PySem.W.findIn K (.ref C) "__ne__" = some (some (.builtin "object.__ne__"))
  fn : PySem.W.isFn K (.ref f) = true
  ob : PySem.W.subIn K (.ref C) (.type "object") = some true
def rOwnEq (K : PySem.W.Frag) (C : Addr) (neg : Bool) (sp : Sp) : R2 := fun x y H Q => ∃ (a dx : Addr) (fs : List (Str × V)) (t : Value), x = .ref a ∧ H a = some (.ins C dx fs) ∧ TyX K H y t ∧ PySem.W.notFirst K C t = true ∧ sp [x, y] H (fun v H' => ∃ b, v = .bl b ∧ Q (.bl (b != neg)) H') (fun _ _ _ => False)
section
variable {X : Cx} {k : Nat} {f C : Addr} {fd : FuncData} {ps : List Str} {sp : Sp}
theorem own_run {pins : List (Addr × Obj)} {σ : St} {H : Hp} {s : Shared} {x y : V} {v u : Value} {A : Around} (G : FnOk X.prog X.w X.K X.mg X.base (L2.CX X.prog X.w) k f fd ps sp) (hr : Room k A) (hA : A.frames = X.A.frames) (hb : Binds X.K fd ps []) (hx : Passes (L2.CX X.prog X.w) X (fun _ _ _ => False))
    (I : Inv X pins σ H s) (rx : RelV x v) (ry : RelV y u) {q : Bool → Hp → Prop} (h : sp [x, y] H (fun v H' => ∃ b, v = .bl b ∧ q b H') (fun _ _ _ => False)) :
    wpAny (model X.prog X.w) A (call (.ref f) [v, u]) (fun r s' => ∃ b H', r = .bool b ∧ Inv X pins σ H' s' ∧ q b H') X.xe s := by
  have r2 : Vals [x, y] [v, u] := .cons rx (.cons ry .nil)
  have hl := G.len _ _ _ _ h
  have b := hb s [v, u] I.kIn (by simpa using hl)
  rw [List.append_nil] at b
  have e := I.env0
  have e0 : Env0 X.prog X.w X.K X.mg X.base A X.stack s H := ⟨by rw [hA]; exact e.frames, e.mod, e.bs, e.bsz, e.funs, e.frf, e.hok, e.bare⟩
  refine wpAny_call (codeAny_mono (G.run A X.stack s H ⟨[v, u], []⟩ [v, u] [x, y] _ _ hr e0 b r2 h) fun r s' hq => ?_)
  match r, hq with
  | .error e, hq => exact hx pins σ H s e s' I hq
  | .ok (.ret w), hq =>
    obtain ⟨z, H', I', rz, bb, ez, q⟩ := I.after hq
    subst ez
    cases rz
    exact ⟨bb, H', rfl, I', q⟩
  | .ok .next, hq => exact False.elim hq
  | .ok .brk, hq => exact False.elim hq
  | .ok .cont, hq => exact False.elim hq
theorem op_ownEq (T : OwnEqC X.K C f) (G : FnOk X.prog X.w X.K X.mg X.base (L2.CX X.prog X.w) k f fd ps sp) (hr : Room k X.A) (hb : Binds X.K fd ps []) (hx : Passes (L2.CX X.prog X.w) X (fun _ _ _ => False)) : OpR X (compareOp .Eq) (rOwnEq X.K C false sp) := by
  intro pins s σ H x y v u Q I rx ry h
  obtain ⟨a, dx, fs, t, rfl, ha, ty, hn, h⟩ := h
  cases rx
  show wpAny (model X.prog X.w) X.A (richCompare .Eq (.ref a) u) (EP X pins σ Q) X.xe s
  obtain ⟨mA, J, _⟩ := ins_get I.hok ha
  obtain ⟨od, J, _⟩ := J.look
  obtain ⟨P, Z, p, _⟩ := kit_of I ry ty
  obtain ⟨m, hF⟩ := I.fr
  refine PySem.W.cmp_K (op := .Eq) hr.units0 hF I.ok.mod.kin J (Z.ty _ _ I.kIn p) hn T.eq T.fn ?_
  refine wpAny_mono (own_run (x := .ref a) G hr rfl hb hx I (show RelV (.ref a) (.ref a) from rfl) ry h) (fun r s' hq => ?_) fun _ _ e => e
  obtain ⟨b, H', rfl, I', q⟩ := hq
  exact ⟨.bl (b != false), H', I', by cases b <;> rfl, q⟩
theorem op_ownNe (T : OwnEqC X.K C f) (G : FnOk X.prog X.w X.K X.mg X.base (L2.CX X.prog X.w) k f fd ps sp) (hr : Room (k + 1) X.A) (hb : Binds X.K fd ps []) (hx : Passes (L2.CX X.prog X.w) X (fun _ _ _ => False)) : OpR X (compareOp .NotEq) (rOwnEq X.K C true sp) := by
  intro pins s σ H x y v u Q I rx ry h
  obtain ⟨a, dx, fs, t, rfl, ha, ty, hn, h⟩ := h
  cases rx
  show wpAny (model X.prog X.w) X.A (richCompare .NotEq (.ref a) u) (EP X pins σ Q) X.xe s
  obtain ⟨mA, J, _⟩ := ins_get I.hok ha
  obtain ⟨od, J, _⟩ := J.look
  obtain ⟨P, Z, p, _⟩ := kit_of I ry ty
  refine ne_K (by have := hr.units; omega) I.kIn J (Z.ty _ _ I.kIn p) hn T.ne T.eq T.fn T.ob ?_
  refine wpAny_mono (own_run (x := .ref a) G hr.in1 rfl hb hx I (show RelV (.ref a) (.ref a) from rfl) ry h) (fun r s' hq => ?_) fun _ _ e => e
  obtain ⟨b, H', rfl, I', q⟩ := hq
  exact ⟨b, rfl, .bl (b != true), H', I', by cases b <;> rfl, q⟩
end
/-- whom the comparison asks: c the class, the types and classes that are no part of it -/
def eqAsk (c : Str) (tys : List String) (cls : List Str) : D → Bool
  | .ins c2 _ => decide (c2 = c ∨ c2 ∈ cls)
  | .lst _ => false
  | y => decide (tyD y ∈ tys)
/-- over data: m what the class's __eq__ computes -/
def ownEqD (c : Str) (neg : Bool) (m : FSem) (tys : List String) (cls : List Str) : D → D → Option RV
  | .ins c' fs, y => if c' = c then (if eqAsk c tys cls y = true then (match m [.fz (.ins c' fs), .fz y] with
    | .ok (.fz (.bl b)) _ => some (.fz (.bl (b != neg)))
    | _ => none) else none) else none
  | _, _ => none
theorem lk_all {α : Type} [BEq α] [LawfulBEq α] {x : α} : ∀ {l : List α}, x ∈ l → (l.map fun y => (y, true)).lookup x = some true
  | z :: r, h => by
    simp only [List.map_cons, List.lookup]
    cases q : x == z with
    | true => rfl
    | false =>
      rcases List.mem_cons.mp h with e | h
      · rw [e] at q; simp at q
      · exact lk_all h
structure OwnEqT (K : PySem.W.Frag) (mg : Str → Option Value) (c : Str) (C : Addr) (tys : List String) (cls : List Str) : Prop where
  at_ : mg c = some (.ref C)
  cl : TyC K C
  ty : ∀ T ∈ tys, PySem.W.subIn K (.type T) (.ref C) = some false
  own : ∀ c2 ∈ cls, ∃ C2, mg c2 = some (.ref C2) ∧ TyC K C2 ∧ PySem.W.notFirst K C (.ref C2) = true
theorem nf_ty {K : PySem.W.Frag} {C : Addr} {t : Value} (h : PySem.W.subIn K t (.ref C) = some false) : PySem.W.notFirst K C t = true := by
  unfold PySem.W.notFirst
  rw [h]; simp
theorem ops_ownEq {B : Bas} {c : Str} {C : Addr} {neg : Bool} {m : FSem} {tys : List String} {cls : List Str} (T : OwnEqT B.K B.mg c C tys cls) : OpS B (rOwnEq B.K C neg (spOf (B.wi I0) 2 m)) (ownEqD c neg m tys cls) := by
  intro F ρ σ H v u x y rv R hv hu e Q q
  cases x with
  | ins c' fs =>
    simp only [ownEqD] at e
    by_cases ec : c' = c
    · rw [if_pos ec] at e
      by_cases hy : eqAsk c tys cls y = true
      · rw [if_pos hy] at e
        subst ec
        have hv1 : Rep B F v (.ins c' fs) := hv.elim id fun ⟨a, xs, ds, _, z, _⟩ => nomatch z
        have hu1 : Rep B F u y := hu.elim id fun ⟨a, xs, ds, _, z, _⟩ => by subst z; cases hy
        obtain ⟨a, dx, vs, ev, hH⟩ : ∃ a dx vs, v = .ref a ∧ H a = some (.ins C dx vs) := by
          cases hv1 with
          | ins g hi _ _ =>
            have g' := T.at_
            rw [g] at g'
            injection g' with g'; injection g' with g'; subst g'
            exact ⟨_, _, _, rfl, R.ext _ _ hi⟩
        subst ev
        have I2 : IsiOk B.K B.mg (fun t => if PySem.W.notFirst B.K C t then some true else none) (tys.map fun T => (T, true)) ((c' :: cls).map fun c => (c, true)) := by
          refine ⟨fun p hp => ?_, fun p hp => ?_⟩
          · obtain ⟨T0, h0, rfl⟩ := List.mem_map.mp hp
            show (if PySem.W.notFirst B.K C (.type T0) then some true else none) = some true
            rw [if_pos (nf_ty (T.ty _ h0))]
          · obtain ⟨c2, h0, rfl⟩ := List.mem_map.mp hp
            rcases List.mem_cons.mp h0 with h0 | h0
            · subst h0; exact ⟨C, T.at_, T.cl, by rw [if_pos (by unfold PySem.W.notFirst; simp)]⟩
            · obtain ⟨C2, g1, g2, g3⟩ := T.own _ h0
              exact ⟨C2, g1, g2, by rw [if_pos g3]⟩
        have ei : isiD (tys.map fun T => (T, true)) ((c' :: cls).map fun c => (c, true)) y = some (.fz (.bl true)) := by
          cases y with
          | ins c2 _ => simp only [isiD]; rw [lk_all (List.mem_cons.mpr (of_decide_eq_true hy))]; rfl
          | lst _ => cases hy
          | _ => simp only [isiD]; rw [lk_all (of_decide_eq_true hy)]; rfl
        obtain ⟨t, b, ty, h2, _⟩ := isi_ty I2 R.ext (.inl hu1) ei
        have nf : PySem.W.notFirst B.K C t = true := by
          by_cases z : PySem.W.notFirst B.K C t = true
          · exact z
          · rw [if_neg z] at h2; cases h2
        have pr : PR B F ρ σ [.ref a, u] [.fz (.ins c' fs), .fz y] := .fz hv1 (.fz hu1 .nil)
        refine ⟨a, dx, vs, t, rfl, hH, ty, nf, F, [.fz (.ins c' fs), .fz y], rfl, rfl, Rel.wi (B := B) (I' := I0) rfl (args_rel (as := [.fz (.ins c' fs), .fz y]) R pr .nil rfl), ?_⟩
        cases em : m [.fz (.ins c' fs), .fz y] with
        | ok r ρa =>
          rw [em] at e
          refine fun F' H' w f r' => ?_
          cases r with
          | fz d =>
            cases d with
            | bl b =>
              simp only [Option.some.injEq] at e
              subst e
              have hw : w = .bl b := by cases r'; rfl
              obtain ⟨S2, R2⟩ := call_back (as := [.fz (.ins c' fs), .fz y]) (Stp.refl F ρ σ H) R pr .nil rfl (FinR.wi (B := B.wi I0) (I' := B.XI) f)
              exact ⟨b, hw, q F' H' _ S2 R2 (.bl _)⟩
            | _ => cases e
          | _ => cases e
        | ex c2 fs2 ρa => rw [em] at e; cases e
        | no => rw [em] at e; cases e
      · rw [if_neg hy] at e; cases e
    · rw [if_neg ec] at e; cases e
  | _ => cases e
end DL
end
section
/-! E13: defs that are called where no repr runs (for repr of lists): promise, rule, call, law's end. -/
namespace DL
open PySem PySem.Spec L2 PyProof.Rows

/-- no list is being shown -/
abbrev NoG (A : Around) : Prop := A.guards = some []
structure FnG (P : Program) (w : World) (K : PySem.W.Frag) (mg : Str → Option Value) (base : Heap) (k : Nat) (f : Addr) (fd : FuncData) (ps : List Str) (sp : Sp) : Prop where
  len : ∀ vs H Q E, sp vs H Q E → vs.length = ps.length
  run : ∀ (A : Around) (outer : List PySem.Env) (s : Shared) (H : Hp) (args : Args) (us : List Value) (vs : List V) (Q : VK) (E : XK), NoG A → Room k A → Env0 P w K mg base A outer s H → BindsTo s fd args (ps.zip us) → Vals vs us → sp vs H Q E →
    codeAny (model P w) A (.call (.ref f) args) (CR (L2.CX P w) outer P w H s Q E) s
section
variable {P : Program} {w : World} {K : PySem.W.Frag} {mg : Str → Option Value} {base : Heap} {k : Nat} {f : Addr} {fd : FuncData} {ps : List Str} {sp : Sp}
theorem FnG.of (G : FnOk P w K mg base (L2.CX P w) k f fd ps sp) : FnG P w K mg base k f fd ps sp := ⟨G.len, fun A outer s H args us vs Q E _ => G.run A outer s H args us vs Q E⟩
theorem FnG.mono {j : Nat} (G : FnG P w K mg base j f fd ps sp) (h : j ≤ k) : FnG P w K mg base k f fd ps sp := ⟨G.len, fun A outer s H args us vs Q E hg hr => G.run A outer s H args us vs Q E hg (hr.mono h)⟩
/-- by its body -/
theorem fnG_of {x qual : Str} {params : Arguments} {body : List Stmt} {scope : Scope} {dvs : List V} {kws : List (Str × V)} {N : List Str} (Fn : FunD K x qual params body scope dvs kws f fd) (S : FnScope N ps scope) (len : ∀ vs H Q E, sp vs H Q E → vs.length = ps.length)
    (hbody : ∀ (cdv : Value) (A : Around) (outer : List PySem.Env) (s : Shared) (H : Hp) (vs : List V) (Q : VK) (E : XK), NoG (A.deeper (PyProof.Rows.envOfC qual scope s.heap.objs.size f cdv)) → Room k (A.deeper (PyProof.Rows.envOfC qual scope s.heap.objs.size f cdv)) → sp vs H Q E →
      ∃ t, PSs (cxOf (L2.CX P w) P w K mg base N qual scope f cdv A outer s H E) body t ∧ t { nx := fun _ H' => Q .non H', rt := Q } (L2.start N vs) H) : FnG P w K mg base (k + 1) f fd ps sp := by
  obtain ⟨oc, od, dV, kV, doc, pm, an, cdv, ct, osl, rfl, lk, hcd, _, _⟩ := Fn.ex
  refine ⟨len, fun A outer s H args us vs Q E hg hr e0 hb r hsp => ?_⟩
  have kp : ∀ b o, base.get? b = some o → s.heap.get? b = some o := fun b o e => (e0.bs b o e).1
  have KX : K.In s.heap := e0.mod.kin.keeps kp
  have hkind : ∀ y ∈ ps.zip us, scope.names.lookup y.1 = some .local ∨ (scope.names.lookup y.1 = some .cell ∧ ((cellsFrom (s.heap.objs.size + 1) scope.names []).lookup y.1).isSome = true) := fun y hy => by
    rcases S.par y.1 (List.of_mem_zip (show (y.1, y.2) ∈ ps.zip us from hy)).1 with q | q
    · exact .inl q
    · exact .inr ⟨q, PySem.W.cellsFrom_some _ _ _ (.inl q)⟩
  refine codeAny_call_function hr.depth (KX _ _ lk) rfl S.co S.gen rfl (PySem.W.codeRec_of KX hcd) (hb _ _ _ _ (wpAny_newFunctionEnv_cells S.kind hkind fun env he s1 x => ?_))
  subst he
  obtain ⟨t, ht, hq⟩ := hbody cdv A outer s H vs Q E hg (hr.deeper _) hsp
  have I := inv_start (CX := L2.CX P w) (E := E) S hr.hd e0 (len _ _ _ _ hsp) r x
  refine ⟨(e0.mod.nolimit.keeps kp).keeps x.toInCall.keep, codeAny_func (wpAny_mono (ht.run [] s1 (L2.start N vs) H _ I hq) (fun fl s' hs => ?_) fun _ _ h => h)⟩
  match fl, hs with
  | .ret u, ⟨v, σ', H', J, rv, q⟩ => exact ⟨v, H', J.os, J.bare, J.base, J.hok, rv, q⟩
  | .next, ⟨σ', H', J, q⟩ => exact ⟨.non, H', J.os, J.bare, J.base, J.hok, rfl, q⟩
  | .brk, ⟨_, _, _, q⟩ => exact False.elim q
  | .cont, ⟨_, _, _, q⟩ => exact False.elim q
end
/-- the law's call, by its promise -/
theorem law_callG {P : Program} {w : World} {K : PySem.W.Frag} {mg mb : Str → Option Value} {k : Nat} {fa a : Addr} {fd : FuncData} {x : Str} {sp : Sp} {s₁ : Shared} {vs : List Value} {ns : List Int}
    (KX : K.In s₁.heap) (hns : s₁.heap.Ns mainGlobals mg) (hb : s₁.heap.Ns builtinsNs mb) (hbb : ∀ x : Str, x ≠ "__name__" → mb x = bootBuiltins x) (hlim : s₁.heap.NoLimit) (hg : s₁.gens = #[])
    (ha : s₁.heap.get? a = some { cls := .type "list", data := .seq vs.toArray }) (hi : IntsAre vs ns) (hl : ns.length ≤ sizeLine) (hr : Room k callerA)
    (G : ∀ base : Heap, K.In base → base.Ns mainGlobals mg → FnG P w K mg base k fa fd [x] sp) (hbind : ∀ (s : Shared) (u : Value), BindsTo s fd ⟨[u], []⟩ [(x, u)])
    (hsp : ∀ H : Hp, Only H → SqL K H a (ns.map V.int) → sp [.ref a] H (fun v _ => v = .bl true) fun _ _ _ => False)
    (hCX : ∀ H e s', L2.CX P w [] H s₁ (fun _ _ _ => False) e s' → False) :
    codeAny (model P w) callerA (.call (.ref fa) ⟨[.ref a], []⟩) (fun r s' => r = .ok (.ret (.bool true)) ∧ OldK s₁.heap s'.heap ∧ s'.os = s₁.os ∧ AllBare s'.gens) s₁ := by
  have rv := vals_ints hi
  -- what is tracked: the script, unless it is one of the module's own objects
  obtain ⟨H, hO, hS, hok, hA, hK⟩ : ∃ H : Hp, Only H ∧ SqL K H a (ns.map V.int) ∧ HOk P w H s₁.heap ∧ (∀ b, H b ≠ none → b = a) ∧ (H a ≠ none → K.lookup a = none) := by
    cases hk : K.lookup a with
    | some o =>
      have e := KX a o hk
      rw [ha] at e; cases e
      exact ⟨fun _ => none, fun _ => .inl rfl, .inr ⟨_, vs.toArray, _, hk, rfl, rfl, rfl, by rw [List.size_toArray, hi.length]; exact hl, by simpa using rv⟩, (fun b u z => nomatch (show (none : Option HO) = some u from z)), fun b z => absurd rfl z, fun z => absurd rfl z⟩
    | none =>
      refine ⟨upd (fun _ => none) a (.frz { cls := .type "list", data := .seq vs.toArray } (.lst (ns.map V.int))), fun b => ?_, .inl (.inr ⟨_, upd_same⟩), fun b u z => ?_, fun b z => ?_, fun _ => rfl⟩
      · by_cases hb : b = a
        · subst hb; exact .inr ⟨_, _, upd_same⟩
        · exact .inl (upd_ne hb)
      · by_cases hb : b = a
        · subst hb
          rw [upd_same] at z; cases z
          exact ⟨ha, by rw [List.length_map]; exact hl, vs, _, rv, ha⟩
        · rw [upd_ne hb] at z; cases z
      · by_cases hb : b = a
        · exact hb
        · exact absurd (upd_ne hb) z
  have free : ∀ {b : Addr}, b ≠ a → H b = none := fun {b} hb => by
    cases q : H b with
    | none => rfl
    | some u => exact absurd (hA b (by rw [q]; exact fun z => nomatch z)) hb
  have dict : ∀ {b : Addr} {o : Obj} {es : Array DictEntry} {ep : Nat}, s₁.heap.get? b = some o → o.data = .dict es ep → b ≠ a := fun {b o es ep} e d z => by
    rw [z, ha] at e; cases e; cases d
  have nsK : ∀ {b : Addr} {m : Str → Option Value}, s₁.heap.Ns b m → (hidT s₁.heap H).Ns b m := fun {b m} ⟨o, es, ep, e, d, r⟩ => ⟨o, es, ep, hidT_get e (free (dict e d)), d, r⟩
  have hKb : K.In (hidT s₁.heap H) := fun b o e => hidT_get (KX b o e) (by
    cases q : H b with
    | none => rfl
    | some u =>
      have e' : b = a := hA b (by rw [q]; exact fun z => nomatch z)
      subst e'
      rw [hK (by rw [q]; exact fun z => nomatch z)] at e; cases e)
  have hM : Mod K mg (hidT s₁.heap H) := ⟨hKb, nsK hns, ⟨mb, nsK hb, hbb⟩, let ⟨mc, h1, h2⟩ := hlim; ⟨mc, nsK h1, h2⟩⟩
  have nil : ∀ {b : Addr}, b ∉ ([] : List Addr) := fun {b} z => nomatch z
  have e0 : Env0 P w K mg (hidT s₁.heap H) callerA [] s₁ H := ⟨rfl, hM, fun b o e => of_hidT e, Nat.le_of_eq (hidT_size _ _), trivial, fun b z => absurd z nil, hok, .of_eq hg⟩
  refine codeAny_mono ((G _ hKb (nsK hns)).run callerA [] s₁ H ⟨[.ref a], []⟩ [.ref a] [.ref a] _ _ rfl hr e0 (hbind s₁ (.ref a)) (.cons rfl .nil) (hsp H hO hS)) fun r s' h => ?_
  match r, h with
  | .error e, h => exact (hCX H e s' h).elim
  | .ok .next, h => exact False.elim h
  | .ok .brk, h => exact False.elim h
  | .ok .cont, h => exact False.elim h
  | .ok (.ret u), ⟨v, H', os, bare, un, hok', r', q⟩ =>
    cases (show v = .bl true from q)
    cases (show u = Value.bool true from r')
    refine ⟨rfl, OldK.of_keep fun b o e => ?_, os, bare⟩
    cases q : H b with
    | none => exact un.keep b o e q nil (by simp)
    | some u =>
      rcases hO b with z | ⟨ob, xs, z⟩
      · rw [q] at z; cases z
      · obtain ⟨e1, _⟩ := hok b _ z
        obtain ⟨e2, _⟩ := hok' b _ (un.frzs b ob _ z)
        rw [e] at e1; cases e1
        exact e2
theorem walk_G {l : PySem.W.OpenLaw} {n k : Nat} {q : Program} {loose : List Str} {XP : (Str → Option Value) → Heap → Prop} {YP : World → Heap → Prop} {d : DefRec} {x : Str}
    (hn : l.most = some n) (hn2 : n ≤ sizeLine) (hdf : d.params.defaults = []) (hr : Room k callerA)
    (G : ∀ (w : World) (mg : Str → Option Value) (fa : Addr) (h : Heap), YP w h → h.Ns mainGlobals mg → mg d.name = some (.ref fa) →
      ∃ (K : PySem.W.Frag) (fd : FuncData) (sp : Sp), K.In h ∧ (∀ (s : Shared) (u : Value), BindsTo s fd ⟨[u], []⟩ [(x, u)]) ∧
        (∀ (H : Hp) (a : Addr) (ns : List Int), ns.length ≤ n → Only H → SqL K H a (ns.map V.int) → sp [.ref a] H (fun v _ => v = .bl true) fun _ _ _ => False) ∧
        ∀ base : Heap, K.In base → base.Ns mainGlobals mg → FnG l.prog w K mg base k fa fd [x] sp)
    (hCX : ∀ (w : World) (H : Hp) (s : Shared) (e : Value) (s' : Shared), L2.CX l.prog w [] H s (fun _ _ _ => False) e s' → False) :
    PySem.W.WalkO q loose XP YP l.row.toRowW d [] (fun f vs => PySem.call f vs) := by
  refine Att.attach_call hn hdf fun w s₀ s₁ mg mb fa o pm cd doc a vs ns Gr Y ho hd hcd hmg hobj hints hlen hg => ?_
  obtain ⟨K, fd, sp, KX, hb, hsp, hF⟩ := G w mg fa _ Y Gr.T.g hmg
  exact law_callG KX Gr.T.g Gr.T.b Gr.T.builtins Gr.T.nolimit hg hobj hints (Nat.le_trans hlen hn2) hr hF hb (fun H hO hS => hsp H a ns hlen hO hS) fun H e s' => hCX w H s₁ e s'
end DL
end
section
/-! E14: calls of defs where no repr runs; repr; join; list(range(n)); properties. -/
namespace DL
open PySem PySem.Spec L2

/-! ### defs of that kind over data -/
section
variable {P : Program} {w : World} {K : PySem.W.Frag} {mg : Str → Option Value} {base : Heap}
/-- what a def's end says, from its body's function -/
theorem body_ends {N ps : List Str} {g : SSem} {W : WX} {t : TS} {vs : List V} {H : Hp} {Q : VK} {E : XK} (hW : W = fun cls d _ H => E cls d H) (m : SemS ⟨K, mg, I0⟩ W t g) (h : spOf ⟨K, mg, I0⟩ ps.length (runB g N.length) vs H Q E) : t { nx := fun _ H' => Q .non H', rt := Q } (L2.start N vs) H := by
  subst hW
  have hlen := spOf_len vs H Q E h
  obtain ⟨F, as, hn, ha, R, hq⟩ := h
  have hl : vs.length = as.length := hlen.trans hn.symm
  refine m F _ (L2.start N vs) H (start_rel hl rfl R) _ ?_
  unfold runB at hq
  have noF' : ∀ (k : Nat) (o0 : OB), (envOf as ++ List.replicate (N.length - as.length) none)[k]? ≠ some (some (.ow false o0)) := fun k o0 h => by
    rcases get_app h with h | h
    · unfold envOf at h
      rw [List.getElem?_map] at h
      cases w : as[k]? with
      | none => rw [w] at h; cases h
      | some u =>
        rw [w] at h; injection h with h; injection h with h; subst h
        have := List.all_eq_true.mp ha _ (List.mem_of_getElem? w)
        cases this
    · exact absurd (List.eq_of_mem_replicate h) (by simp)
  cases e : g (envOf as ++ List.replicate (N.length - as.length) none) with
  | nx ρ' => rw [e] at hq; exact fun F' σ' H' S' R' => hq F' H' .non (fin_of hl rfl S' R') Rep.non
  | rt r ρ' =>
    rw [e] at hq
    refine fun F' σ' H' v S' R' r' => hq F' H' v (fin_of hl rfl S' R') ?_
    cases r with
    | fz d => exact r'
    | sl i => exact r'
    | fr o =>
      obtain ⟨a, e1, h1, h2, h3⟩ := r'
      rcases h3 with h3 | ⟨k, o0, h3, _⟩
      · exact ⟨a, e1, h3, h1, h2⟩
      · exact absurd h3 (noF' k o0)
  | bk ρ' => rw [e] at hq; exact hq.elim
  | ct ρ' => rw [e] at hq; exact hq.elim
  | ex c fs ρ' => rw [e] at hq; exact fun F' σ' H' cls dd S' R' x => hq F' H' cls dd (fin_of hl rfl S' R') x
  | no => rw [e] at hq; exact hq.elim
theorem fn_dataG {x qual : Str} {params : Arguments} {body : List Stmt} {scope : Scope} {dvs : List V} {kws : List (Str × V)} {f : Addr} {fd : FuncData} {N ps : List Str} {k : Nat} {g : SSem} (Fn : FunD K x qual params body scope dvs kws f fd) (S : FnScope N ps scope)
    (hb : ∀ (cdv : Value) (A : Around) (outer : List PySem.Env) (s : Shared) (H : Hp) (E : XK), NoG (A.deeper (PyProof.Rows.envOfC qual scope s.heap.objs.size f cdv)) → Room k (A.deeper (PyProof.Rows.envOfC qual scope s.heap.objs.size f cdv)) →
      Takes (cxOf (L2.CX P w) P w K mg base N qual scope f cdv A outer s H E) (fun cls d _ H => E cls d H) →
      SSs (cxOf (L2.CX P w) P w K mg base N qual scope f cdv A outer s H E) I0 (fun cls d _ H => E cls d H) body g) :
    FnG P w K mg base (k + 1) f fd ps (spOf ⟨K, mg, I0⟩ ps.length (runB g N.length)) := by
  refine fnG_of Fn S (fun vs H Q E h => spOf_len vs H Q E h) fun cdv A outer s H vs Q E hg hr h => ?_
  obtain ⟨t, p, m⟩ := hb cdv A outer s H E hg hr (takes_of rfl rfl rfl rfl)
  exact ⟨t, p, body_ends rfl m h⟩
theorem fn_dataD {x qual : Str} {params : Arguments} {body : List Stmt} {scope : Scope} {dvs : List V} {kws : List (Str × V)} {f : Addr} {fd : FuncData} {N ps : List Str} {k : Nat} {g : SSem} (Fn : FunD K x qual params body scope dvs kws f fd) (S : FnScope N ps scope)
    (hb : ∀ (cdv : Value) (A : Around) (outer : List PySem.Env) (s : Shared) (H : Hp) (E : XK), Room k (A.deeper (PyProof.Rows.envOfC qual scope s.heap.objs.size f cdv)) →
      Takes (cxOf (L2.CX P w) P w K mg base N qual scope f cdv A outer s H E) (fun cls d _ H => E cls d H) →
      SSs (cxOf (L2.CX P w) P w K mg base N qual scope f cdv A outer s H E) I0 (fun cls d _ H => E cls d H) body g) :
    FnOk P w K mg base (L2.CX P w) (k + 1) f fd ps (spOf ⟨K, mg, I0⟩ ps.length (runB g N.length)) := by
  refine Fn.ok S (fun vs H Q E h => spOf_len vs H Q E h) fun cdv A outer s H vs Q E hr h => ?_
  obtain ⟨t, p, m⟩ := hb cdv A outer s H E hr (takes_of rfl rfl rfl rfl)
  exact ⟨t, p, body_ends rfl m h⟩
end
section
variable {X : Cx} {k : Nat} {f : Addr} {fd : FuncData} {ps : List Str} {sp : Sp} {dvs : List V} {ds : List Value} {E : St → XK} {x : Str} {p pos : Pos} {e : Expr} {es : List Expr} {t : TA}
theorem pe_callG (G : FnG X.prog X.w X.K X.mg X.base k f fd ps sp) (hgd : NoG X.A) (hr : Room k X.A) (hg : Gl X x) (hm : X.mg x = some (.ref f)) (hk : PySem.W.keepIn X.K (.ref f) = true) (hb : Binds X.K fd ps ds) (hd : Vals dvs ds) (hx : ∀ σ, PassesAt (L2.CX X.prog X.w) X σ (E σ))
    (ha : PA X (e :: es) t) (hdb : (x == ("__debug__" : Str)) = false := by decide) (he : starEach (e :: es) X.env = (false, eval e X.env) :: starEach es X.env := by rfl) (hpl : (backTo pos (starEach es X.env)).any (·.1) = false := by rfl) :
    PE X (.Call (.Name x p) (e :: es) [] pos) (tCallSD sp dvs E t) := by
  refine ⟨fun pins s σ H Q I h => ?_⟩
  refine wpAny_Call_Name_kw (ld_glob I hg hm (PySem.W.callWith_K (h₀ := X.base) I.ok.mod.kin hk (thn (ha.run pos pins s σ H _ I h) fun us s1 ⟨vs, H1, I1, r, q⟩ => ⟨I1.kIn, ?_⟩) he hpl) hdb)
  have r2 : Vals (vs ++ dvs) (us ++ ds) := r.append hd
  refine wpAny_call (codeAny_mono (G.run X.A X.stack s1 H1 ⟨us, []⟩ (us ++ ds) (vs ++ dvs) Q (E σ) hgd hr I1.env0 (hb s1 us I1.kIn (r2.length.symm.trans (G.len _ _ _ _ q))) r2 q) fun r s' hq => ?_)
  match r, hq with
  | .error e, hq => exact hx σ pins H1 s1 e s' I1 hq
  | .ok (.ret u), hq => exact I1.after hq
  | .ok .next, hq => exact False.elim hq
  | .ok .brk, hq => exact False.elim hq
  | .ok .cont, hq => exact False.elim hq
end
section
variable {X : Cx} {I : Addr → Value → Option Addr → Prop} {W : WX} {k : Nat} {f : Addr} {fd : FuncData} {ps : List Str} {x : Str} {p pos : Pos} {e : Expr} {es : List Expr} {fs : List ESem} {m : FSem} {n : Nat} {dvs : List V} {ds : List Value} {dds : List D}
theorem se_callG (G : FnG X.prog X.w X.K X.mg X.base k f fd ps (spOf (bas X I0) n m)) (hgd : NoG X.A) (hr : Room k X.A) (hg : Gl X x) (hm : X.mg x = some (.ref f)) (hk : PySem.W.keepIn X.K (.ref f) = true) (hb : Binds X.K fd ps ds) (hd : Vals dvs ds) (hdr : ∀ F, RepL (bas X I) F dvs dds) (tk : Takes X W)
    (ha : SA X I W (e :: es) (eP fs)) (hn : fs.length + dds.length = n) (hdb : (x == ("__debug__" : Str)) = false := by decide) (he : starEach (e :: es) X.env = (false, eval e X.env) :: starEach es X.env := by rfl) (hpl : (backTo pos (starEach es X.env)).any (·.1) = false := by rfl) :
    SE X I W (.Call (.Name x p) (e :: es) [] pos) (eCallD m dds fs) := by
  obtain ⟨t, q, mm⟩ := ha
  refine ⟨_, pe_callG (E := fun σ cls d H => W cls d σ H) G hgd hr hg hm hk hb hd (fun σ => passAt tk σ) q hdb he hpl, fun F ρ σ H R Q hq => ?_⟩
  rw [eCallD, Out.OK_bind] at hq
  cases ee : eP fs ρ with
  | no => rw [ee] at hq; exact hq.elim
  | ex c gs ρ1 => exact mm F ρ σ H R _ (by rw [ee] at hq ⊢; exact hq)
  | ok rs ρ1 =>
    refine mm F ρ σ H R _ ?_
    rw [ee] at hq ⊢
    refine fun F1 H1 vs S1 L1 R1 pr => ?_
    show spOf (bas X I0) n m (vs ++ dvs) H1 Q (fun cls d H => W cls d σ H)
    cases ea : argsOf ρ1 (rs ++ dds.map .fz) with
    | none => simp only [Out.OK, ea] at hq
    | some as =>
      simp only [Out.OK, ea] at hq
      by_cases nd : (slotsOf rs).Nodup
      · rw [if_pos nd] at hq
        exact sem_call (t := t) R S1 L1 R1 (pr.app (PR.ofL (hdr F1))) ea (by rw [slots_app]; exact nd) hq (by rw [args_len ea, List.length_append, List.length_map, eP_len ee]; exact hn)
      · rw [if_neg nd] at hq; exact hq.elim
end

/-! ### repr of a list, of a tuple -/
def okShow (p : PyData) : Bool := PyData.showable p && (!PyData.hasDict p && (decide (p.depth ≤ 60) && decide (p.shown.length ≤ sizeLine)))
def isSeqP : PyData → Bool
  | .list _ => true
  | .tuple _ => true
  | _ => false
def reprD (d : D) : Option RV := match d.pd with
  | some p => if (isSeqP p && okShow p) = true then some (.fz (.str p.shown)) else none
  | none => none
def rRepr (K : PySem.W.Frag) : List V → Hp → VK → Prop := fun xs H Q => ∃ a p, xs = [.ref a] ∧ Dp K H (.ref a) p ∧ okShow p = true ∧ Q (.str p.shown) H
theorem call_repr {X : Cx} (hg : NoG X.A) (hu : X.A.units + 64 < cLine) : CallR X (.builtin "repr") (rRepr X.K) := by
  intro pins s σ H xs us Q I r h
  obtain ⟨a, p, rfl, hd, ok, q⟩ := h
  cases r with
  | cons rx rr =>
    cases rr
    cases rx
    obtain ⟨as, hr⟩ := Dp.reads I p _ _ hd rfl
    unfold okShow at ok
    simp only [Bool.and_eq_true, Bool.not_eq_true', decide_eq_true_eq] at ok
    obtain ⟨h1, h2, h3, h4⟩ := ok
    exact repr_of_reads' hr h1 (PyData.noDict_hsm h2) hg (by omega) (fun _ _ e => e) (fun h' u tk k => ⟨.str p.shown, H, I.kept k, ⟨_, rfl⟩, q⟩) h4
theorem call_reprD {B : Bas} : CallS1 B (rRepr B.K) reprD := by
  intro F ρ σ H v x rv R hv e Q q
  unfold reprD at e
  cases ep : x.pd with
  | none => rw [ep] at e; cases e
  | some p =>
    rw [ep] at e
    dsimp only at e
    by_cases z : (isSeqP p && okShow p) = true
    · rw [if_pos z] at e
      cases e
      obtain ⟨z1, z2⟩ := Bool.and_eq_true_iff.mp z
      have hd := hv.dp R.ext ep
      have : ∃ a, v = .ref a := by
        cases hd <;> first | exact ⟨_, rfl⟩ | cases z1
      obtain ⟨a, rfl⟩ := this
      exact ⟨a, p, rfl, hd, z2, ret1 R q (.str _)⟩
    · rw [if_neg z] at e; cases e

/-! ### join -/
def strs? : List D → Option (List Str)
  | [] => some []
  | .str x :: r => (strs? r).map (x :: ·)
  | _ :: _ => none
theorem strs?_eq : ∀ {ds : List D} {xs : List Str}, strs? ds = some xs → ds = xs.map D.str
  | [], _, e => by cases e; rfl
  | .str x :: r, xs, e => by
    simp only [strs?] at e
    cases q : strs? r with
    | none => rw [q] at e; cases e
    | some ms => rw [q] at e; cases e; rw [List.map_cons, ← strs?_eq q]
  | .non :: _, _, e => nomatch e
  | .bl _ :: _, _, e => nomatch e
  | .int _ :: _, _, e => nomatch e
  | .tup _ :: _, _, e => nomatch e
  | .lst _ :: _, _, e => nomatch e
  | .scr _ :: _, _, e => nomatch e
  | .ins _ _ :: _, _, e => nomatch e
theorem strs?_map : ∀ xs : List Str, strs? (xs.map D.str) = some xs
  | [] => rfl
  | x :: r => by simp only [List.map_cons, strs?, strs?_map r, Option.map_some]
def joinD (a : Str) : D → Option RV
  | .lst ds => match strs? ds with
    | some ys => if (ys.map (·.length)).sum + ys.length * a.length ≤ 16777216 then some (.fz (.str (Txt.join a ys))) else none
    | none => none
  | .tup ds => match strs? ds with
    | some ys => if (ys.map (·.length)).sum + ys.length * a.length ≤ 16777216 then some (.fz (.str (Txt.join a ys))) else none
    | none => none
  | _ => none
section
variable {X : Cx} {I : Addr → Value → Option Addr → Prop} {W : WX} {e : Expr} {f : ESem} {a : Str} {j : Nat} {p0 apos pos p p1 : Pos}
theorem se_join (h : SE X I W e f) (hs : starEach [e] X.env = [(false, eval e X.env)] := by rfl) (hbase : attributeBase (.Constant (.str a) j p0) "join" X.env (eval (.Constant (.str a) j p0) X.env) = eval (.Constant (.str a) j p0) X.env := by rfl) (hline : (apos.endLine == pos.line) = true := by rfl) :
    SE X I W (.Call (.Attribute (.Constant (.str a) j p0) "join" apos) [e] [] pos) (eU (joinD a) f) := by
  obtain ⟨t, q, m⟩ := h
  refine ⟨_, pe_join pe_str q hs hbase hline, fun F ρ σ H R Q hq => ⟨⟨a, rfl⟩, ?_⟩⟩
  rw [eU, Out.OK_bind] at hq
  refine m F ρ σ H R _ (hq.imp (fun r ρ1 hq F1 H1 v S1 L1 R1 r1 => ?_) fun _ _ _ z => z)
  cases e1 : rd ρ1 r with
  | none => rw [e1] at hq; exact hq.elim
  | some d =>
    simp only [e1] at hq
    have hv := rd_ok R1 r1 e1
    have fin : ∀ {ds : List D} {xs : List V} {aa : Addr}, (joinD a d = match strs? ds with
        | some ys => if (ys.map (·.length)).sum + ys.length * a.length ≤ 16777216 then some (.fz (.str (Txt.join a ys))) else none
        | none => none) → v = .ref aa → RepL (bas X I) F1 xs ds → (SqL X.K H1 aa xs ∨ SqT X.K H1 aa xs) →
        ∃ a_1 p, ∃ ys : List Str, V.str a = V.str a_1 ∧ [v] = [V.ref p] ∧ (SqL X.K H1 p (ys.map V.str) ∨ SqT X.K H1 p (ys.map V.str)) ∧ (ys.map (·.length)).sum + ys.length * a_1.length ≤ 16777216 ∧ Q (.str (Txt.join a_1 ys)) H1 := fun {ds xs aa} ej ev l sq => by
      rw [ej] at hq
      cases e2 : strs? ds with
      | none => rw [e2] at hq; exact hq.elim
      | some ys =>
        rw [e2] at hq
        dsimp only at hq
        by_cases z : (ys.map (·.length)).sum + ys.length * a.length ≤ 16777216
        · rw [if_pos z] at hq
          have e3 := strs?_eq e2
          subst e3
          have e4 := l.inv_strs
          subst e4
          exact ⟨a, aa, ys, rfl, by rw [ev], sq, z, hq F1 H1 _ S1 L1 R1 (.str _)⟩
        · rw [if_neg z] at hq; exact hq.elim
    cases d with
    | lst ds => obtain ⟨aa, xs, ev, h1, l⟩ := hv.lst R1.ext; exact fin rfl ev l (.inl (SqL.of h1))
    | tup ds => obtain ⟨aa, xs, ev, h1, l⟩ := hv.tup; exact fin rfl ev l (.inr (sqt_mono R1.ext h1))
    | _ => exact hq.elim
end

/-! ### list(range(n)) -/
def okRg (i j : Int) : Bool := smallR i j && decide ((j - i).toNat ≤ 2 ^ 24)
def eLstRg (rg : List D → Option (Int × Int)) (args : List ESem) : ESem := fun ρ => (eL args ρ).bind fun ds ρ1 => match rg ds with
  | some (i, j) => if okRg i j = true then .ok (.fr (.lst (rangeD i j))) ρ1 else .no
  | none => .no
theorem rep_rng {B : Bas} {F : Hp} (i j : Int) : RepL B F (rgV i j) (rangeD i j) := by
  unfold rgV rangeD
  induction List.range (j - i).toNat with
  | nil => exact .nil
  | cons a r ih => exact .cons (.int _) ih
theorem okRg_ok {i j : Int} (h : okRg i j = true) : RgOk i j := by
  unfold okRg smallR at h
  simp only [Bool.and_eq_true, decide_eq_true_eq] at h
  exact ⟨h.1.1, h.1.2.1, h.1.2.2.1, h.1.2.2.2, h.2⟩
section
variable {X : Cx} {I : Addr → Value → Option Addr → Prop} {W : WX} {a b : Expr} {fa fb : ESem} {p p1 pos pos1 : Pos}
theorem se_listRg1 (hc : X.calm = true) (hg : Gl X "list") (hm : X.mg "list" = none) (hg2 : Gl X "range") (hm2 : X.mg "range" = none) (h : SE X I W a fa)
    (na : starEach [.Call (.Name "range" p1) [a] [] pos1] X.env = (false, eval (.Call (.Name "range" p1) [a] [] pos1) X.env) :: starEach [] X.env := by rfl) (nb : starEach [a] X.env = (false, eval a X.env) :: starEach [] X.env := by rfl) :
    SE X I W (.Call (.Name "list" p) [.Call (.Name "range" p1) [a] [] pos1] [] pos) (eLstRg rngOf1 [fa]) := by
  obtain ⟨t, q, m⟩ := h
  refine ⟨_, pe_listRg hc hg hm (prg_1 hg2 hm2 q nb) na, fun F ρ σ H R Q hq => ?_⟩
  rw [eLstRg, Out.OK_bind, eL, eF, Out.OK_bind, Out.OK_bind] at hq
  refine m F ρ σ H R _ (hq.imp (fun r ρ1 hq F1 H1 v S1 L1 R1 r1 => ?_) fun _ _ _ z => z)
  cases e1 : frz ρ1 r with
  | none => rw [e1] at hq; exact hq.elim
  | some z =>
    obtain ⟨d, ρ2⟩ := z
    rw [e1] at hq
    obtain ⟨F2, S2, L2, R2, r2, _⟩ := frz_ok R1 S1 r1 e1
    simp only [Out.OK, eL, Out.bind] at hq
    cases d with
    | int n =>
      simp only [rngOf1] at hq
      by_cases z : okRg 0 n = true
      · rw [if_pos z] at hq
        cases r2
        refine ⟨n, rfl, okRg_ok z, fun q hn => ?_⟩
        obtain ⟨S3, R3, r3⟩ := newList R2 S2 hn (rep_rng 0 n)
        exact hq _ _ _ S3 (L1.trans L2) R3 r3
      · rw [if_neg z] at hq; exact hq.elim
    | _ => exact hq.elim
end

/-! ### a property -/
def eProp (c : Str) (m : FSem) (g : ESem) : ESem := fun ρ => (g ρ).bind fun r ρ1 => match rd ρ1 r with
  | some (.ins c' fs) => if c' = c then (match m [.fz (.ins c' fs)] with
    | .ok r' _ => .ok r' ρ1
    | _ => .no) else .no
  | _ => .no
section
variable {X : Cx} {I : Addr → Value → Option Addr → Prop} {W : WX} {k : Nat} {C p g : Addr} {f c : Str} {fd : FuncData} {ps : List Str} {m : FSem} {e : Expr} {ge : ESem} {pos : Pos}
theorem se_prop (hc : X.mg c = some (.ref C)) (cl : Cls X.K C) (hp : PropOf X.K C f p g) (G : FnOk X.prog X.w X.K X.mg X.base (L2.CX X.prog X.w) k g fd ps (spOf (bas X I0) 1 m)) (hr : Room (k + 1) X.A) (hb : Binds X.K fd ps []) (h : SE X I W e ge)
    (hab : attributeBase e f X.env (eval e X.env) = eval e X.env := by rfl) : SE X I W (.Attribute e f pos) (eProp c m ge) := by
  obtain ⟨t, q, mm⟩ := h
  have hx : L2.Passes (L2.CX X.prog X.w) X.nox (fun _ _ _ => False) := passes_call (X := X.nox) takes0 fun _ _ _ _ h => h.elim
  refine ⟨_, pe_prop (dvs := []) q cl hp G hr hb .nil hx hab, fun F ρ σ H R Q hq => ?_⟩
  rw [eProp, Out.OK_bind] at hq
  refine mm F ρ σ H R _ (hq.imp (fun r ρ1 hz F1 H1 v S1 L1 R1 r1 => ?_) fun _ _ _ z => z)
  clear hq
  cases e1 : rd ρ1 r with
  | none => rw [e1] at hz; exact hz.elim
  | some d =>
    rw [e1] at hz
    cases d with
    | ins c' fs =>
      dsimp only at hz
      by_cases ec : c' = c
      · rw [if_pos ec] at hz
        subst ec
        have hv : Rep (bas X I) F1 v (.ins c' fs) := (rd_ok R1 r1 e1).elim id fun ⟨a, xs, ds, _, z, _⟩ => nomatch z
        have hv0 := hv
        cases hv with
        | @ins a C' dx _ vs _ gC hi ho hf =>
          have gg : (some (Value.ref C') : Option Value) = some (.ref C) := gC.symm.trans hc
          injection gg with gg; injection gg with gg; subst gg
          have pr : PR (bas X I) F1 ρ1 σ [.ref a] [.fz (.ins c' fs)] := .fz hv0 .nil
          refine ⟨a, dx, vs, rfl, R1.ext _ _ hi, F1, [.fz (.ins c' fs)], rfl, rfl, Rel.wi (B := bas X I) (I' := I0) rfl (args_rel (as := [.fz (.ins c' fs)]) R1 pr .nil rfl), ?_⟩
          cases em : m [.fz (.ins c' fs)] with
          | ok r' ρa =>
            rw [em] at hz
            refine fun F' H' w f r2 => ?_
            obtain ⟨S2, R2⟩ := call_back (as := [.fz (.ins c' fs)]) S1 R1 pr .nil rfl (FinR.wi (B := bas X I0) (I' := I) f)
            exact hz F' H' w S2 L1 R2 (RetF.rvr (fun a z => S1.dom a z) (fun _ _ h => h) R1 (RetF.wi (B := bas X I0) (I' := I) r2))
          | ex c2 fs2 ρa => rw [em] at hz; exact hz.elim
          | no => rw [em] at hz; exact hz.elim
      · rw [if_neg ec] at hz; exact hz.elim
    | _ => exact hz.elim
end
end DL
end
section
/-! E15: what the head tells of the module: defs, and facts that a Bool decides. -/
namespace DL
open PySem PySem.Spec L2 PySem.W

/-- where a def stands: a global; a class's method; a class's property -/
inductive Pa where
  | glo (x : Str) | met (c m : Str) | prp (c m : Str)
def Pa.ad (K : Frag) : Pa → Addr
  | .glo x => He.ga K x
  | .met c m => He.ma K (He.ga K c) m
  | .prp c m => match recIn K (He.ma K (He.ga K c) m) "property" with
    | some (.ref g :: _) => g
    | _ => 0
abbrev Fv : Type := Option (Str × Str × Arguments × FuncBody × Scope × Addr × List Str × Addr)
def fvOf (K : Frag) (a : Addr) : Fv := match K.lookup a with
  | some ⟨_, _, .func fd, _⟩ => some (fd.name, fd.qualname, fd.params, fd.body, fd.scope, fd.globals, fd.closure.map (·.1), fd.builtins)
  | _ => none
/-- one def: sup: it closes over its class -/
structure DF where
  at_ : Pa
  name : Str
  qual : Str
  st : Stmt
  dfl : List He.Dv := []
  sup : Bool := false
def DF.val (d : DF) : Fv := some (d.name, d.qual, defArgs d.st, .stmts (defBody d.st), defScope d.st, mainGlobals, if d.sup then ["__class__"] else [], builtinsNs)
def DF.ok (K : Frag) (d : DF) : Bool := keepIn K (.ref (d.at_.ad K)) && (match K.lookup (d.at_.ad K) with
  | some ⟨_, _, .func fd, _⟩ => codeIn K fd.code d.qual && (He.dflB K fd.defaults (d.dfl.map (He.Dv.v K)) && He.kwdB K fd.kwdefaults [])
  | _ => false)
/-- the class that it closes over, where its code was written -/
def supB (P : Program) (K : Frag) (a D : Addr) : Bool := match K.lookup a with
  | some ⟨_, _, .func fd, _⟩ => (match fd.closure, fd.code with
    | [(_, cc)], .ref cda => (match K.lookup cc, K.lookup cda with
      | some ⟨_, _, .cell (some (.ref D')), _⟩, some ⟨_, _, .fields vs, _⟩ => decide (D' = D) && (match (vs[2]? : Option Value) with
        | some (Value.str file _) => (P.main.file : Str) == file
        | _ => false)
      | _, _ => false)
    | _, _ => false)
  | _ => false
theorem DF.look {K : Frag} {d : DF} (e : fvOf K (d.at_.ad K) = d.val) (c : d.ok K = true) : ∃ (oc : Value) (od : Option Addr) (fd : FuncData) (osl : Array (Option Value)), K.lookup (d.at_.ad K) = some ⟨oc, od, .func fd, osl⟩ ∧
    fd.name = d.name ∧ fd.qualname = d.qual ∧ fd.params = defArgs d.st ∧ fd.body = .stmts (defBody d.st) ∧ fd.scope = defScope d.st ∧ fd.globals = mainGlobals ∧ fd.closure.map (·.1) = (if d.sup then [("__class__" : Str)] else []) ∧ fd.builtins = builtinsNs ∧
    codeIn K fd.code d.qual = true ∧ DflV K fd.defaults (d.dfl.map (He.Dv.v K)) ∧ keepIn K (.ref (d.at_.ad K)) = true := by
  obtain ⟨kp, c2⟩ := He.ba c
  unfold fvOf at e
  cases q : K.lookup (d.at_.ad K) with
  | none => rw [q] at c2; cases c2
  | some o =>
    obtain ⟨oc, od, dt, osl⟩ := o
    rw [q] at c2 e
    cases dt with
    | func fd =>
      obtain ⟨k1, k2⟩ := He.ba (show (codeIn K fd.code d.qual && (He.dflB K fd.defaults (d.dfl.map (He.Dv.v K)) && He.kwdB K fd.kwdefaults [])) = true from c2)
      obtain ⟨k3, _⟩ := He.ba k2
      have e2 : (some (fd.name, fd.qualname, fd.params, fd.body, fd.scope, fd.globals, fd.closure.map (·.1), fd.builtins) : Fv) = d.val := e
      unfold DF.val at e2
      simp only [Option.some.injEq, Prod.mk.injEq] at e2
      obtain ⟨h1, h2, h3, h4, h5, h6, h7, h8⟩ := e2
      exact ⟨oc, od, fd, osl, rfl, h1, h2, h3, h4, h5, h6, h7, h8, k1, He.dflB_ok k3, kp⟩
    | _ => cases c2
theorem DF.funD {K : Frag} {d : DF} (hs : d.sup = false) (e : fvOf K (d.at_.ad K) = d.val) (c : d.ok K = true) : ∃ fd, FunD K d.name d.qual (defArgs d.st) (defBody d.st) (defScope d.st) (d.dfl.map (He.Dv.v K)) [] (d.at_.ad K) fd := by
  obtain ⟨oc, od, fd, osl, q, h1, h2, h3, h4, h5, h6, h7, h8, k1, k3, kp⟩ := DF.look e c
  obtain ⟨n1, n2, n3, n4, n5, n6, n7, n8, n9, n10, n11, n12, n13, n14, n15⟩ := fd
  rw [hs] at h7
  dsimp only at h1 h2 h3 h4 h5 h6 h7 h8 k1 k3
  have h7' : n7 = [] := List.map_eq_nil_iff.mp h7
  subst h1 h2 h3 h4 h5 h6 h7' h8
  exact ⟨_, ⟨oc, od, n8, n9, n10, n11, n12, n13, n14, osl, rfl, q, k1, k3, .inl rfl⟩, kp⟩
theorem DF.supFn {P : Program} {K : Frag} {d : DF} {D : Addr} (hs : d.sup = true) (hdf : d.dfl = []) (e : fvOf K (d.at_.ad K) = d.val) (c : d.ok K = true) (b : supB P K (d.at_.ad K) D = true) : ∃ fd, SupFn K P d.name d.qual d.st D (d.at_.ad K) fd := by
  obtain ⟨oc, od, fd, osl, q, h1, h2, h3, h4, h5, h6, h7, h8, k1, k3, kp⟩ := DF.look e c
  obtain ⟨n1, n2, n3, n4, n5, n6, n7, n8, n9, n10, n11, n12, n13, n14, n15⟩ := fd
  rw [hs] at h7
  dsimp only at h1 h2 h3 h4 h5 h6 h7 h8 k1 k3
  have hn8 : n8 = .none := by
    rw [hdf] at k3
    rcases k3 with ⟨_, z⟩ | ⟨z, _⟩
    · exact z
    · exact absurd rfl z
  subst hn8
  unfold supB at b
  rw [q] at b
  dsimp only at b
  match n7, n13, h7, b, q, k1 with
  | [(nm, cc)], .ref cda, h7, b, q, k1 =>
    dsimp only at b
    simp only [if_true, List.map_cons, List.map_nil, List.cons.injEq, and_true] at h7
    cases q1 : K.lookup cc with
    | none => rw [q1] at b; cases b
    | some o1 =>
      obtain ⟨c1, d1, dt1, s1⟩ := o1
      cases q2 : K.lookup cda with
      | none => rw [q1, q2] at b; cases dt1 <;> first | cases b | (rename_i v; cases v <;> first | cases b | (rename_i v; cases v <;> cases b))
      | some o2 =>
        obtain ⟨c2, d2, dt2, s2⟩ := o2
        rw [q1, q2] at b
        cases dt1 with
        | cell v =>
          cases v with
          | none => cases b
          | some v =>
            cases v with
            | ref D' =>
              cases dt2 with
              | fields vs =>
                dsimp only at b
                obtain ⟨b1, b2⟩ := He.ba b
                have eD := of_decide_eq_true b1
                cases q3 : vs[2]? with
                | none => rw [q3] at b2; cases b2
                | some z =>
                  rw [q3] at b2
                  cases z with
                  | str file tf =>
                    subst h1 h2 h3 h4 h5 h6 h7 h8 eD
                    exact ⟨_, ⟨oc, od, n9, n10, n11, n12, cda, n14, osl, cc, c2, d2, vs, s2, file, tf, c1, d1, s1, rfl, q, k1, q2, q3, b2, q1⟩, kp⟩
                  | _ => cases b2
              | _ => cases b
            | _ => cases b
        | _ => cases b
  | [], _, h7, _, _, _ => exact absurd (congrArg List.length h7) (by simp)
  | _ :: _ :: _, _, h7, _, _, _ => exact absurd (congrArg List.length h7) (by simp)
  | [_], .none, _, b, _, _ => cases b
  | [_], .ellipsis, _, b, _, _ => cases b
  | [_], .notImplemented, _, b, _, _ => cases b
  | [_], .bool _, _, b, _, _ => cases b
  | [_], .int _ _, _, b, _, _ => cases b
  | [_], .float _ _, _, b, _, _ => cases b
  | [_], .str _ _, _, b, _, _ => cases b
  | [_], .bytes _ _, _, b, _, _ => cases b
  | [_], .type _, _, b, _, _ => cases b
  | [_], .builtin _, _, b, _, _ => cases b

/-! ### the Hook -/
abbrev Pf : Type := Frag → Bool
abbrev AlF : Type := Bool × List Fv
def obsF (fs : List Pf) (ds : List DF) (K : Frag) : AlF := ((fs.all fun f => f K) && ds.all fun d => d.ok K, ds.map fun d => fvOf K (d.at_.ad K))
def valF (ds : List DF) : AlF := (true, ds.map DF.val)
def SaysF (fs : List Pf) (ds : List DF) (K : Frag) : Prop := obsF fs ds K = valF ds
def obsFG (n : Nat) (fs : List Pf) (ds : List DF) (g : Addr → Option Obj) : AlF := obsF fs ds (He.frG g (cStatics :: He.asD g n))
def hookF (n : Nat) (fs : List Pf) (ds : List DF) : Hook where
  α := AlF
  obs := fun s => obsFG n fs ds s.heap.get?
  val := fun _ => valF ds
  says := fun _ h => ∃ K : Frag, K.In h ∧ SaysF fs ds K
  of := fun _ _ e => ⟨_, He.frG_in, e⟩
  keeps := fun _ _ _ ⟨K, hK, c⟩ k => ⟨K, Frag.In.keeps hK k, c⟩
theorem obsFG_eq {n : Nat} {fs : List Pf} {ds : List DF} {g : Addr → Option Obj} {s : Shared} (h : ∀ a, g a = s.heap.get? a) : obsFG n fs ds g = (hookF n fs ds).obs s := by
  have e : g = s.heap.get? := funext h
  rw [e] <;> rfl
section
variable {fs : List Pf} {ds : List DF} {K : Frag}
theorem SaysF.fact (c : SaysF fs ds K) {i : Nat} {f : Pf} (h : fs[i]? = some f) : f K = true := by
  have c1 := (He.ba (show ((fs.all fun f => f K) && ds.all fun d => d.ok K) = true from congrArg (fun z : AlF => z.1) c)).1
  exact List.all_eq_true.mp c1 f (List.mem_of_getElem? h)
theorem SaysF.at_ (c : SaysF fs ds K) {i : Nat} {d : DF} (h : ds[i]? = some d) : fvOf K (d.at_.ad K) = d.val ∧ d.ok K = true := by
  have c2 := (He.ba (show ((fs.all fun f => f K) && ds.all fun d => d.ok K) = true from congrArg (fun z : AlF => z.1) c)).2
  have e : ds.map (fun d => fvOf K (d.at_.ad K)) = ds.map DF.val := congrArg (fun z : AlF => z.2) c
  have e2 : (ds.map fun d => fvOf K (d.at_.ad K))[i]? = (ds.map DF.val)[i]? := by rw [e]
  rw [List.getElem?_map, List.getElem?_map, h] at e2
  exact ⟨Option.some.inj e2, List.all_eq_true.mp c2 d (List.mem_of_getElem? h)⟩
end

/-! ### facts -/
/-- an own error over ValueError -/
def oexB (K : Frag) (C : Addr) : Bool := (match K.lookup C with
  | some ⟨.type "type", _, .cls cd, sl⟩ => (match cd.mro, sl.toList with
    | .ref C' :: bm, [_, _, _, _, some (.builtin n), _] => C' == C && (n == "ValueError.__new__" && (!cd.hasDel && (cd.hasDict && PySem.HandSPX.refsVE bm)))
    | _, _ => false)
  | _ => false) && (decide (findIn K (.ref C) "__setattr__" = some (some (.builtin "object.__setattr__"))) && (decide (subIn K (.ref C) (.type "BaseException") = some true) && (decide (typeIn K (.ref C) = some (.type "type")) && keepIn K (.ref C))))
theorem oexB_ok {K : Frag} {C : Addr} (h : oexB K C = true) : OexC K C := by
  obtain ⟨h1, h⟩ := He.ba h
  obtain ⟨h2, h⟩ := He.ba h
  obtain ⟨h3, h⟩ := He.ba h
  obtain ⟨h4, h5⟩ := He.ba h
  refine ⟨?_, of_decide_eq_true h2, of_decide_eq_true h3, of_decide_eq_true h4, h5⟩
  split at h1
  · rename_i dd cd sl ho
    split at h1
    · rename_i C' bm k0 k1 k2 k3 n k5 hm hs
      simp only [Bool.and_eq_true, beq_iff_eq, Bool.not_eq_true'] at h1
      obtain ⟨e1, e2, e3, e4, e5⟩ := h1
      subst e1 e2
      obtain ⟨nm, bs, mro, ns, qn, hd, sn, sb, ab, col, del⟩ := cd
      dsimp only at hm e3 e4
      subst hm e3 e4
      have e6 : sl = #[k0, k1, k2, k3, some (.builtin "ValueError.__new__"), k5] := by
        have := congrArg List.toArray hs
        simpa using this
      subst e6
      exact ⟨nm, qn, ns, bs, bm, sn, sb, ab, col, dd, k0, k1, k2, k3, k5, ho, e5⟩
    · cases h1
  · cases h1
def supCB (K : Frag) (C : Addr) : Bool := oexB K C && (decide (mroIn K C (.ref C) = some true) && (decide (ks_superIn K C C "__init__" = some (some (.builtin "ValueError.__init__"))) && (decide (subIn K (.ref C) (.type "ValueError") = some true) && (clsIn K C).isSome)))
theorem supCB_ok {K : Frag} {C : Addr} (h : supCB K C = true) : SupC K C C := by
  obtain ⟨h1, h⟩ := He.ba h
  obtain ⟨h2, h⟩ := He.ba h
  obtain ⟨h3, h⟩ := He.ba h
  obtain ⟨h4, h5⟩ := He.ba h
  exact ⟨oexB_ok h1, of_decide_eq_true h2, of_decide_eq_true h3, of_decide_eq_true h4, Option.isSome_iff_exists.mp h5, Option.isSome_iff_exists.mp h5⟩
/-- an own error's own __init__ -/
def initB (K : Frag) (C f : Addr) : Bool := decide (findIn K (.ref C) "__init__" = some (some (.ref f))) && decide (typeIn K (.ref f) = some (.type "function"))
theorem initB_ok {K : Frag} {C f : Addr} (h : initB K C f = true) : findIn K (.ref C) "__init__" = some (some (.ref f)) ∧ typeIn K (.ref f) = some (.type "function") := by
  obtain ⟨h1, h2⟩ := He.ba h
  exact ⟨of_decide_eq_true h1, of_decide_eq_true h2⟩
def clsQ (K : Frag) (C : Addr) : Bool := decide (findIn K (.ref C) "__class__" = some (some (.builtin "object.__class__"))) && (decide (specialIn K (.builtin "object.__class__") "__get__" = some (some (.builtin "getset_descriptor.__get__"))) && (decide (takesIn K (.builtin "object.__class__") = some true) && decide (mroIn K C (.type "object") = some true)))
def clsB (K : Frag) (C : Addr) : Bool := plainGet K C Str.empty && (hasDictIn K C && (plainOver K C && decide (findIn K (.ref C) "__setattr__" = some (some (.builtin "object.__setattr__")))))
theorem clsB_ok {K : Frag} {C : Addr} (h : clsB K C = true) : Cls K C := by
  obtain ⟨h1, h⟩ := He.ba h
  obtain ⟨h2, h⟩ := He.ba h
  obtain ⟨h3, h4⟩ := He.ba h
  exact ⟨h1, h2, h3, of_decide_eq_true h4⟩
def tycB (K : Frag) (C : Addr) : Bool := clsB K C && clsQ K C
theorem tycB_ok {K : Frag} {C : Addr} (h : tycB K C = true) : TyC K C := by
  obtain ⟨h0, h⟩ := He.ba h
  obtain ⟨h1, h⟩ := He.ba h
  obtain ⟨h2, h⟩ := He.ba h
  obtain ⟨h3, h4⟩ := He.ba h
  exact ⟨clsB_ok h0, of_decide_eq_true h1, of_decide_eq_true h2, of_decide_eq_true h3, of_decide_eq_true h4⟩
def excCB (K : Frag) (C : Addr) : Bool := decide (findIn K (.ref C) "__getattribute__" = some (some (.builtin "BaseException.__getattribute__"))) && (decide (findIn K (.ref C) "__getattr__" = some none) && (decide (subIn K (.ref C) (.type "BaseException") = some true) && (hasDictIn K C && clsQ K C)))
theorem excCB_ok {K : Frag} {C : Addr} (h : excCB K C = true) : ExcC K C ∧ XfC K C := by
  obtain ⟨a1, h⟩ := He.ba h
  obtain ⟨a2, h⟩ := He.ba h
  obtain ⟨a3, h⟩ := He.ba h
  obtain ⟨a4, h⟩ := He.ba h
  obtain ⟨h1, h⟩ := He.ba h
  obtain ⟨h2, h⟩ := He.ba h
  obtain ⟨h3, h4⟩ := He.ba h
  exact ⟨⟨of_decide_eq_true a1, of_decide_eq_true a2, of_decide_eq_true a3, a4, of_decide_eq_true h1, of_decide_eq_true h2, of_decide_eq_true h3, of_decide_eq_true h4⟩, ⟨of_decide_eq_true a1, of_decide_eq_true a2, of_decide_eq_true a3, a4⟩⟩
def mkB (K : Frag) (C f : Addr) : Bool := makesIn K C && (decide (findIn K (.ref C) "__init__" = some (some (.ref f))) && (isFn K (.ref f) && keepIn K (.ref C)))
theorem mkB_ok {K : Frag} {C f : Addr} (h : mkB K C f = true) : Mk K C f := by
  obtain ⟨h1, h⟩ := He.ba h
  obtain ⟨h2, h⟩ := He.ba h
  obtain ⟨h3, h4⟩ := He.ba h
  exact ⟨h1, of_decide_eq_true h2, h3, h4⟩
def noatB (K : Frag) (C : Addr) (fs : List Str) : Bool := fs.all fun f => decide (findIn K (.ref C) f = some none)
theorem noatB_ok {K : Frag} {C : Addr} {fs : List Str} (h : noatB K C fs = true) {f : Str} (hf : f ∈ fs) : findIn K (.ref C) f = some none := of_decide_eq_true (List.all_eq_true.mp h f hf)
def propB (K : Frag) (C : Addr) (f : Str) (p g : Addr) : Bool := decide (findIn K (.ref C) f = some (some (.ref p))) && (decide (specialIn K (.ref p) "__get__" = some (some (.builtin "property.__get__"))) && (decide (takesIn K (.ref p) = some true) && (match recIn K p "property" with
  | some (.ref g' :: _) => decide (g' = g)
  | _ => false)))
theorem propB_ok {K : Frag} {C : Addr} {f : Str} {p g : Addr} (h : propB K C f p g = true) : PropOf K C f p g := by
  obtain ⟨h1, h⟩ := He.ba h
  obtain ⟨h2, h⟩ := He.ba h
  obtain ⟨h3, h4⟩ := He.ba h
  refine ⟨of_decide_eq_true h1, of_decide_eq_true h2, of_decide_eq_true h3, ?_⟩
  split at h4
  · rename_i g' r e
    exact ⟨r, by rw [e, of_decide_eq_true h4]⟩
  · cases h4
def ownEqB (K : Frag) (C f : Addr) : Bool := decide (findIn K (.ref C) "__eq__" = some (some (.ref f))) && (decide (findIn K (.ref C) "__ne__" = some (some (.builtin "object.__ne__"))) && (isFn K (.ref f) && decide (subIn K (.ref C) (.type "object") = some true)))
theorem ownEqB_ok {K : Frag} {C f : Addr} (h : ownEqB K C f = true) : OwnEqC K C f := by
  obtain ⟨h1, h⟩ := He.ba h
  obtain ⟨h2, h⟩ := He.ba h
  obtain ⟨h3, h4⟩ := He.ba h
  exact ⟨of_decide_eq_true h1, of_decide_eq_true h2, h3, of_decide_eq_true h4⟩
/-- answers of isinstance, of except, by class -/
def kitOB (K : Frag) (u : Value) (tT : List (String × Bool)) (tK : List (Addr × Bool)) : Bool := (tT.all fun p => decide (kitOne K (.type p.1) u = some p.2)) && tK.all fun p => decide (kitOne K (.ref p.1) u = some p.2)
def kitAB (K : Frag) (us : List Value) (tT : List (String × Bool)) (tK : List (Addr × Bool)) : Bool := (tT.all fun p => decide (kitAny K (.type p.1) us = some p.2)) && tK.all fun p => decide (kitAny K (.ref p.1) us = some p.2)
def globB (K : Frag) (x : Str) : Bool := decide (nsIn K mainGlobals x = some (some (.ref (He.ga K x))))
def freeB (K : Frag) (x : Str) : Bool := decide (nsIn K mainGlobals x = some none)
end DL
end
section
/-! E16: the rules in short, for printed terms. -/
namespace DL
open PySem PySem.Spec L2

theorem bt_len : bootBuiltins "len" = some (.builtin "len") := by decide +kernel
theorem bt_int : bootBuiltins "int" = some (.type "int") := by decide +kernel
theorem bt_list : bootBuiltins "list" = some (.type "list") := by decide +kernel
theorem bt_tuple : bootBuiltins "tuple" = some (.type "tuple") := by decide +kernel
theorem bt_sorted : bootBuiltins "sorted" = some (.builtin "sorted") := by decide +kernel
theorem bt_repr : bootBuiltins "repr" = some (.builtin "repr") := by decide +kernel
theorem bt_str : bootBuiltins "str" = some (.type "str") := by decide +kernel
theorem bt_bool : bootBuiltins "bool" = some (.type "bool") := by decide +kernel
theorem bt_vE : bootBuiltins "ValueError" = some (.type "ValueError") := by decide +kernel
theorem u65 {k : Nat} {A : Around} (r : Room k A) : A.units + 65 < cLine := by have := r.un; omega
theorem u64 {k : Nat} {A : Around} (r : Room k A) : A.units + 64 < cLine := by have := r.un; omega
section
variable {X : Cx} {I : Addr → Value → Option Addr → Prop} {W : WX} {a b c : Expr} {f fa fb : ESem} {p pos apos cpos : Pos}
/-! ### built-ins -/
theorem k_len (hm : X.mg "len" = none) (h : SE X I W a f) (hg : Gl X "len" := by rfl) (he : starEach [a] X.env = (false, eval a X.env) :: starEach [] X.env := by rfl) (hpl : (backTo pos (starEach [] X.env)).any (·.1) = false := by rfl) : SE X I W (.Call (.Name "len" p) [a] [] pos) (eU lenD f) :=
  se_callB1 call_len call_lenD hg hm bt_len h (by decide) (by decide) he hpl
theorem k_int (hm : X.mg "int" = none) (h : SE X I W a f) (hg : Gl X "int" := by rfl) (he : starEach [a] X.env = (false, eval a X.env) :: starEach [] X.env := by rfl) (hpl : (backTo pos (starEach [] X.env)).any (·.1) = false := by rfl) : SE X I W (.Call (.Name "int" p) [a] [] pos) (eU intD f) :=
  se_callT1 call_int1 call_intD hg hm bt_int h (by decide) (by decide) he hpl
theorem k_list (hm : X.mg "list" = none) (h : SE X I W a f) (hg : Gl X "list" := by rfl) (he : starEach [a] X.env = (false, eval a X.env) :: starEach [] X.env := by rfl) (hpl : (backTo pos (starEach [] X.env)).any (·.1) = false := by rfl) : SE X I W (.Call (.Name "list" p) [a] [] pos) (eU listD f) :=
  se_callT1 call_list_of call_listD hg hm bt_list h (by decide) (by decide) he hpl
theorem k_tuple (hm : X.mg "tuple" = none) (h : SE X I W a f) (hg : Gl X "tuple" := by rfl) (he : starEach [a] X.env = (false, eval a X.env) :: starEach [] X.env := by rfl) (hpl : (backTo pos (starEach [] X.env)).any (·.1) = false := by rfl) : SE X I W (.Call (.Name "tuple" p) [a] [] pos) (eU tupD f) :=
  se_callT1 call_tuple_of call_tupD hg hm bt_tuple h (by decide) (by decide) he hpl
theorem k_sorted (hm : X.mg "sorted" = none) (h : SE X I W a f) (hg : Gl X "sorted" := by rfl) (he : starEach [a] X.env = (false, eval a X.env) :: starEach [] X.env := by rfl) (hpl : (backTo pos (starEach [] X.env)).any (·.1) = false := by rfl) : SE X I W (.Call (.Name "sorted" p) [a] [] pos) (eU srtD f) :=
  se_callB1 cr_sortedA call_srtD hg hm bt_sorted h (by decide) (by decide) he hpl
theorem k_repr (hgd : NoG X.A) (hu : X.A.units + 65 < cLine) (hm : X.mg "repr" = none) (h : SE X I W a f) (hg : Gl X "repr" := by rfl) (he : starEach [a] X.env = (false, eval a X.env) :: starEach [] X.env := by rfl) (hpl : (backTo pos (starEach [] X.env)).any (·.1) = false := by rfl) : SE X I W (.Call (.Name "repr" p) [a] [] pos) (eU reprD f) :=
  se_callB1 (call_repr hgd (by omega)) call_reprD hg hm bt_repr h (by decide) (by decide) he hpl
theorem k_listRg (hc : X.calm = true) (hm : X.mg "list" = none) (hm2 : X.mg "range" = none) {p1 pos1 : Pos} (h : SE X I W a fa) (hg : Gl X "list" := by rfl) (hg2 : Gl X "range" := by rfl)
    (na : starEach [.Call (.Name "range" p1) [a] [] pos1] X.env = (false, eval (.Call (.Name "range" p1) [a] [] pos1) X.env) :: starEach [] X.env := by rfl) (nb : starEach [a] X.env = (false, eval a X.env) :: starEach [] X.env := by rfl) :
    SE X I W (.Call (.Name "list" p) [.Call (.Name "range" p1) [a] [] pos1] [] pos) (eLstRg rngOf1 [fa]) := se_listRg1 hc hg hm hg2 hm2 h na nb
/-! ### the module's constants -/
theorem k_gint {x : Str} {i : Int} (h : ∃ t, X.mg x = some (.int i t)) (hg : Gl X x := by rfl) (hd : (x == ("__debug__" : Str)) = false := by decide) : SE X I W (.Name x pos) (eC (.int i)) := let ⟨t, h⟩ := h; se_const (v := .int i) (pe_glob hg h ⟨t, rfl⟩ hd) fun _ => .int i
theorem k_gstr {x : Str} {i : Str} (h : ∃ t, X.mg x = some (.str i t)) (hg : Gl X x := by rfl) (hd : (x == ("__debug__" : Str)) = false := by decide) : SE X I W (.Name x pos) (eC (.str i)) := let ⟨t, h⟩ := h; se_const (v := .str i) (pe_glob hg h ⟨t, rfl⟩ hd) fun _ => .str i
/-! ### operators -/
theorem k_add (h : SE X I W a fa) (k : SE X I W b fb) : SE X I W (.BinOp a .Add b pos) (eOp addD fa fb) := se_op op_addA ops_add h k
theorem k_sub (h : SE X I W a fa) (k : SE X I W b fb) : SE X I W (.BinOp a .Sub b pos) (eOp subD fa fb) := se_op op_sub ops_sub h k
theorem k_mul (h : SE X I W a fa) (k : SE X I W b fb) : SE X I W (.BinOp a .Mult b pos) (eOp mulD fa fb) := se_op op_mulA ops_mul h k
theorem k_div (h : SE X I W a fa) (k : SE X I W b fb) : SE X I W (.BinOp a .FloorDiv b pos) (eOp divD fa fb) := se_op op_fdiv ops_div h k
theorem k_mod (h : SE X I W a fa) (k : SE X I W b fb) : SE X I W (.BinOp a .Mod b pos) (eOp modD fa fb) := se_op op_mod ops_mod h k
theorem k_pow (h : SE X I W a fa) (k : SE X I W b fb) : SE X I W (.BinOp a .Pow b pos) (eOp powD fa fb) := se_op op_pow ops_pow h k
theorem k_lt (h : SE X I W a fa) (k : SE X I W b fb) : SE X I W (.Compare a [.Lt] [b] pos) (eOp ltD fa fb) := se_cmp op_lt ops_cmp h k
theorem k_le (h : SE X I W a fa) (k : SE X I W b fb) : SE X I W (.Compare a [.LtE] [b] pos) (eOp leD fa fb) := se_cmp op_le ops_cmp h k
theorem k_gt (h : SE X I W a fa) (k : SE X I W b fb) : SE X I W (.Compare a [.Gt] [b] pos) (eOp gtD fa fb) := se_cmp op_gt ops_cmp h k
theorem k_ge (h : SE X I W a fa) (k : SE X I W b fb) : SE X I W (.Compare a [.GtE] [b] pos) (eOp geD fa fb) := se_cmp op_ge ops_cmp h k
theorem k_eq (hu : X.A.units + 65 < cLine) (h : SE X I W a fa) (k : SE X I W b fb) : SE X I W (.Compare a [.Eq] [b] pos) (eOp eqD fa fb) := se_cmp (op_eqA (by omega)) ops_eq h k
theorem k_ne (hu : X.A.units + 65 < cLine) (h : SE X I W a fa) (k : SE X I W b fb) : SE X I W (.Compare a [.NotEq] [b] pos) (eOp neD fa fb) := se_cmp (op_neA (by omega)) ops_ne h k
theorem k_is (h : SE X I W a fa) (k : SE X I W b fb) : SE X I W (.Compare a [.Is] [b] pos) (eOp isD fa fb) := se_cmp op_isN ops_is h k
theorem k_isnt (h : SE X I W a fa) (k : SE X I W b fb) : SE X I W (.Compare a [.IsNot] [b] pos) (eOp isntD fa fb) := se_cmp op_notN ops_isnt h k
theorem k_in (hu : X.A.units + 65 < cLine) (h : SE X I W a fa) (k : SE X I W b fb) (hm : behindInMarks .In b = false := by rfl) : SE X I W (.Compare a [.In] [b] pos) (eOp inD fa fb) := se_cmp (op_inA hu) ops_in h k hm
theorem k_nin (hu : X.A.units + 65 < cLine) (h : SE X I W a fa) (k : SE X I W b fb) (hm : behindInMarks .NotIn b = false := by rfl) : SE X I W (.Compare a [.NotIn] [b] pos) (eOp ninD fa fb) := se_cmp (op_ninA hu) ops_nin h k hm
/-- the same as tests -/
theorem q_lt (h : SE X I W a fa) (k : SE X I W b fb) : SC X I W (.Compare a [.Lt] [b] pos) (cB (eOp ltD fa fb)) := sc_cmp op_lt ops_cmp h k
theorem q_le (h : SE X I W a fa) (k : SE X I W b fb) : SC X I W (.Compare a [.LtE] [b] pos) (cB (eOp leD fa fb)) := sc_cmp op_le ops_cmp h k
theorem q_gt (h : SE X I W a fa) (k : SE X I W b fb) : SC X I W (.Compare a [.Gt] [b] pos) (cB (eOp gtD fa fb)) := sc_cmp op_gt ops_cmp h k
theorem q_ge (h : SE X I W a fa) (k : SE X I W b fb) : SC X I W (.Compare a [.GtE] [b] pos) (cB (eOp geD fa fb)) := sc_cmp op_ge ops_cmp h k
theorem q_eq (hu : X.A.units + 65 < cLine) (h : SE X I W a fa) (k : SE X I W b fb) : SC X I W (.Compare a [.Eq] [b] pos) (cB (eOp eqD fa fb)) := sc_cmp (op_eqA (by omega)) ops_eq h k
theorem q_ne (hu : X.A.units + 65 < cLine) (h : SE X I W a fa) (k : SE X I W b fb) : SC X I W (.Compare a [.NotEq] [b] pos) (cB (eOp neD fa fb)) := sc_cmp (op_neA (by omega)) ops_ne h k
theorem q_is (h : SE X I W a fa) (k : SE X I W b fb) : SC X I W (.Compare a [.Is] [b] pos) (cB (eOp isD fa fb)) := sc_cmp op_isN ops_is h k
theorem q_isnt (h : SE X I W a fa) (k : SE X I W b fb) : SC X I W (.Compare a [.IsNot] [b] pos) (cB (eOp isntD fa fb)) := sc_cmp op_notN ops_isnt h k
theorem q_in (hu : X.A.units + 65 < cLine) (h : SE X I W a fa) (k : SE X I W b fb) (hm : behindInMarks .In b = false := by rfl) : SC X I W (.Compare a [.In] [b] pos) (cB (eOp inD fa fb)) := sc_cmp (op_inA hu) ops_in h k hm
theorem q_nin (hu : X.A.units + 65 < cLine) (h : SE X I W a fa) (k : SE X I W b fb) (hm : behindInMarks .NotIn b = false := by rfl) : SC X I W (.Compare a [.NotIn] [b] pos) (cB (eOp ninD fa fb)) := sc_cmp (op_ninA hu) ops_nin h k hm
/-- own == -/
theorem k_own {cn : Str} {C g : Addr} {fd : FuncData} {ps : List Str} {m : FSem} {n : Nat} {tys : List String} {cls : List Str} (T : OwnEqC X.K C g) (G : FnOk X.prog X.w X.K X.mg X.base (L2.CX X.prog X.w) n g fd ps (spOf (bas X I0) 2 m)) (hr : Room n X.A) (hb : Binds X.K fd ps []) (tk : Takes X W) (T2 : OwnEqT X.K X.mg cn C tys cls)
    (h : SE X I W a fa) (k : SE X I W b fb) : SE X I W (.Compare a [.Eq] [b] pos) (eOp (ownEqD cn false m tys cls) fa fb) :=
  se_cmp (op_ownEq T G hr hb (passes_call tk fun _ _ _ _ h => h.elim)) (ops_ownEq (B := bas X I) T2) h k
theorem k_ownNe {cn : Str} {C g : Addr} {fd : FuncData} {ps : List Str} {m : FSem} {n : Nat} {tys : List String} {cls : List Str} (T : OwnEqC X.K C g) (G : FnOk X.prog X.w X.K X.mg X.base (L2.CX X.prog X.w) n g fd ps (spOf (bas X I0) 2 m)) (hr : Room (n + 1) X.A) (hb : Binds X.K fd ps []) (tk : Takes X W) (T2 : OwnEqT X.K X.mg cn C tys cls)
    (h : SE X I W a fa) (k : SE X I W b fb) : SE X I W (.Compare a [.NotEq] [b] pos) (eOp (ownEqD cn true m tys cls) fa fb) :=
  se_cmp (op_ownNe T G hr hb (passes_call tk fun _ _ _ _ h => h.elim)) (ops_ownEq (B := bas X I) T2) h k
theorem q_own {cn : Str} {C g : Addr} {fd : FuncData} {ps : List Str} {m : FSem} {n : Nat} {tys : List String} {cls : List Str} (T : OwnEqC X.K C g) (G : FnOk X.prog X.w X.K X.mg X.base (L2.CX X.prog X.w) n g fd ps (spOf (bas X I0) 2 m)) (hr : Room n X.A) (hb : Binds X.K fd ps []) (tk : Takes X W) (T2 : OwnEqT X.K X.mg cn C tys cls)
    (h : SE X I W a fa) (k : SE X I W b fb) : SC X I W (.Compare a [.Eq] [b] pos) (cB (eOp (ownEqD cn false m tys cls) fa fb)) :=
  sc_cmp (op_ownEq T G hr hb (passes_call tk fun _ _ _ _ h => h.elim)) (ops_ownEq (B := bas X I) T2) h k
theorem q_ownNe {cn : Str} {C g : Addr} {fd : FuncData} {ps : List Str} {m : FSem} {n : Nat} {tys : List String} {cls : List Str} (T : OwnEqC X.K C g) (G : FnOk X.prog X.w X.K X.mg X.base (L2.CX X.prog X.w) n g fd ps (spOf (bas X I0) 2 m)) (hr : Room (n + 1) X.A) (hb : Binds X.K fd ps []) (tk : Takes X W) (T2 : OwnEqT X.K X.mg cn C tys cls)
    (h : SE X I W a fa) (k : SE X I W b fb) : SC X I W (.Compare a [.NotEq] [b] pos) (cB (eOp (ownEqD cn true m tys cls) fa fb)) :=
  sc_cmp (op_ownNe T G hr hb (passes_call tk fun _ _ _ _ h => h.elim)) (ops_ownEq (B := bas X I) T2) h k
/-- an expression that gives a truth value, as a test -/
theorem q_val (h : SE X I W a f) (he : ∀ whole, isTrue a X.env whole = (do let v ← whole; standAt a.pos; holding [v] (truthy v)) := by intro _; rfl) : SC X I W a (cT f) := sc_truth h he
/-! ### lists changed -/
theorem k_append {x : Str} {k : Nat} (hv : PE X (.Name x p) (tVar k)) (h : SE X I W a f)
    (hbase : attributeBase (.Name x p) "append" X.env (eval (.Name x p) X.env) = eval (.Name x p) X.env := by rfl)
    (hfew : ((backTo cpos (starEach [a] X.env)).all (fun x => !x.1) && (backToKw cpos (keywordEach [] X.env)).all (fun x => x.1.isSome) && decide ([a].length + ([] : List Keyword).length + (if ([] : List Keyword).isEmpty then 0 else 1) < 30)) = true := by rfl)
    (hline : (apos.endLine == cpos.line) = true := by rfl) (hs : starEach [a] X.env = (false, eval a X.env) :: starEach [] X.env := by rfl) (hplain : (backTo cpos (starEach [] X.env)).any (·.1) = false := by rfl) :
    SE X I W (.Call (.Attribute (.Name x p) "append" apos) [a] [] cpos) (eMut k appM [f]) := se_mut F.slot_list_append F.type_list_append mt_append mut_app hv (sl_cons h sl_nil hs) hbase hfew hline hs hplain
theorem k_pop {x : Str} {k : Nat} (hv : PE X (.Name x p) (tVar k)) (h : SE X I W a f)
    (hbase : attributeBase (.Name x p) "pop" X.env (eval (.Name x p) X.env) = eval (.Name x p) X.env := by rfl)
    (hfew : ((backTo cpos (starEach [a] X.env)).all (fun x => !x.1) && (backToKw cpos (keywordEach [] X.env)).all (fun x => x.1.isSome) && decide ([a].length + ([] : List Keyword).length + (if ([] : List Keyword).isEmpty then 0 else 1) < 30)) = true := by rfl)
    (hline : (apos.endLine == cpos.line) = true := by rfl) (hs : starEach [a] X.env = (false, eval a X.env) :: starEach [] X.env := by rfl) (hplain : (backTo cpos (starEach [] X.env)).any (·.1) = false := by rfl) :
    SE X I W (.Call (.Attribute (.Name x p) "pop" apos) [a] [] cpos) (eMut k popM [f]) := se_mut F.slot_list_pop F.type_list_pop (MtR.or mt_pop mt_popAt) mut_pop hv (sl_cons h sl_nil hs) hbase hfew hline hs hplain
end
/-! ### the facts of a law -/
structure Tx (fs : List Pf) (ds : List DF) (K : PySem.W.Frag) (mg : Str → Option Value) : Prop where
  c : SaysF fs ds K
  g : ∃ h : Heap, K.In h ∧ h.Ns mainGlobals mg
section
variable {fs : List Pf} {ds : List DF} {K : PySem.W.Frag} {mg : Str → Option Value}
theorem Tx.glo (T : Tx fs ds K mg) {x : Str} (i : Nat) (h : fs[i]? = some (fun K => globB K x)) : mg x = some (.ref (He.ga K x)) := let ⟨_, KX, G⟩ := T.g; PySem.W.mg_of KX G (of_decide_eq_true (T.c.fact h))
theorem Tx.free (T : Tx fs ds K mg) {x : Str} (i : Nat) (h : fs[i]? = some (fun K => freeB K x)) : mg x = none := let ⟨_, KX, G⟩ := T.g; PySem.W.mg_none_of KX G (of_decide_eq_true (T.c.fact h))
theorem Tx.int (T : Tx fs ds K mg) {x : Str} {j : Int} (i : Nat) (h : fs[i]? = some (fun K => (He.Fa.int x j).ok K)) : ∃ t, mg x = some (.int j t) := let ⟨_, KX, G⟩ := T.g; He.int_ok KX G (T.c.fact h)
theorem Tx.str (T : Tx fs ds K mg) {x z : Str} (i : Nat) (h : fs[i]? = some (fun K => (He.Fa.str x z).ok K)) : ∃ t, mg x = some (.str z t) := let ⟨_, KX, G⟩ := T.g; He.str_ok KX G (T.c.fact h)
end
end DL
end
section
/-! E17: tables of isinstance; a, b = x, y that keeps what is the def's own. -/
namespace DL
open PySem PySem.Spec L2
section
variable {K : PySem.W.Frag} {mg : Str → Option Value} {u : Value} {us : List Value} {tT : List (String × Bool)} {tK : List (Str × Bool)}
theorem isi_of (h : kitOB K u tT (tK.map fun p => (He.ga K p.1, p.2)) = true) (hg : ∀ p ∈ tK, mg p.1 = some (.ref (He.ga K p.1)) ∧ TyC K (He.ga K p.1)) : IsiOk K mg (fun t => PySem.W.kitOne K t u) tT tK := by
  obtain ⟨h1, h2⟩ := He.ba h
  refine ⟨fun p hp => of_decide_eq_true (List.all_eq_true.mp h1 p hp), fun p hp => ?_⟩
  obtain ⟨g1, g2⟩ := hg p hp
  exact ⟨_, g1, g2, of_decide_eq_true (List.all_eq_true.mp h2 (He.ga K p.1, p.2) (List.mem_map_of_mem (f := fun p => (He.ga K p.1, p.2)) hp))⟩
theorem isi_ofT (h : kitAB K us tT (tK.map fun p => (He.ga K p.1, p.2)) = true) (hg : ∀ p ∈ tK, mg p.1 = some (.ref (He.ga K p.1)) ∧ TyC K (He.ga K p.1)) : IsiOk K mg (fun t => PySem.W.kitAny K t us) tT tK := by
  obtain ⟨h1, h2⟩ := He.ba h
  refine ⟨fun p hp => of_decide_eq_true (List.all_eq_true.mp h1 p hp), fun p hp => ?_⟩
  obtain ⟨g1, g2⟩ := hg p hp
  exact ⟨_, g1, g2, of_decide_eq_true (List.all_eq_true.mp h2 (He.ga K p.1, p.2) (List.mem_map_of_mem (f := fun p => (He.ga K p.1, p.2)) hp))⟩
end
section
variable {X : Cx} {I : Addr → Value → Option Addr → Prop} {W : WX} {pos : Pos}
def sPar2 (i j : Nat) (fa fb : ESem) : SSem := fun ρ => (fa ρ).sbind fun ra ρ1 => (fb ρ1).sbind fun rb ρ2 => match ra, rb with
  | .fr oa, .fr ob => .nx ((ρ2.set i (some (.ow false oa))).set j (some (.ow false ob)))
  | _, _ => .no
theorem ss_par2 {i j : Nat} {x y : Str} {a b : Expr} {fa fb : ESem} {px py pt : Pos} {kt k2 : Nat} {pt2 : Pos} (hc : X.calm = true) (hN : X.N.Nodup) (hi : X.N[i]? = some x) (hj : X.N[j]? = some y) (hij : i ≠ j)
    (hx : X.env.scope.names.lookup x = some .local) (hy : X.env.scope.names.lookup y = some .local) (ha : SE X I W a fa) (hb : SE X I W b fb)
    (hw : swappedStores [.Tuple [.Name x px, .Name y py] kt pt] (.Tuple [a, b] k2 pt2) X.env = pure (some [x, y]))
    (hs : swapsWithSole [.Tuple [.Name x px, .Name y py] kt pt] (.Tuple [a, b] k2 pt2) pos.line X.env = pure false := by rfl)
    (h1 : starEach [a, b] X.env = (false, eval a X.env) :: starEach [b] X.env := by rfl) (h2 : starEach [b] X.env = (false, eval b X.env) :: starEach [] X.env := by rfl) :
    SS X I W (.Assign [.Tuple [.Name x px, .Name y py] kt pt] (.Tuple [a, b] k2 pt2) pos) (sPar2 i j fa fb) := by
  obtain ⟨t, p, m⟩ := ha
  obtain ⟨u, q, n⟩ := hb
  refine ⟨_, ps_par hc hN hi hj hij hx hy (pa_cons p (pa_cons q pa_nil h2) h1) hw hs, fun F ρ σ H R E hq => ?_⟩
  rw [sPar2, Out.OK_sbind] at hq
  refine m F ρ σ H R _ (hq.imp (fun ra ρ1 hq F1 H1 v S1 L1 R1 r1 => ?_) fun _ _ _ z => PostX.ofZ z)
  rw [Out.OK_sbind] at hq
  refine n F1 ρ1 σ H1 R1 _ (hq.imp (fun rb ρ2 hq F2 H2 w S2 L2 R2 r2 => ?_) fun _ _ _ z => (PostX.ofZ z).back S1)
  have r1' := r1.next S2 L2
  have S3 := S1.trans S2
  cases ra with
  | fr oa =>
    cases rb with
    | fr ob =>
      obtain ⟨aa, ea, ha0, hfa, roa, hha⟩ := r1'
      obtain ⟨ab, eb, hb0, hfb, rob, hhb⟩ := r2
      subst ea eb
      have hne : aa ≠ ab := fun z => by
        obtain ⟨a', ea', _, _, ro', _⟩ := r1
        obtain ⟨o', ho'⟩ := ro'.some
        cases ea'
        rw [z] at ho'
        rw [hb0] at ho'; cases ho'
      obtain ⟨R4, S4⟩ := R2.put (i := i) (sv := .ow false oa) (v := .ref aa) S3 ⟨aa, rfl, hfa, roa⟩ fun _ => ⟨oa, rfl, aa, rfl, ha0, hha⟩
      have hh2 : ∀ k, ¬ HasAt (ρ2.set i (some (.ow false oa))) (σ.set i (some (.ref aa))) k ab := fun k ⟨sv, q1, q2, q3⟩ => by
        rcases get_set q3 with ⟨_, z⟩ | ⟨z, q3⟩
        · injection z with z; injection z with z; exact hne z.symm
        · rcases get_set q1 with ⟨z2, _⟩ | ⟨_, q1⟩
          · exact z z2
          · exact hhb k ⟨sv, q1, q2, q3⟩
      obtain ⟨R5, S5⟩ := R4.put (i := j) (sv := .ow false ob) (v := .ref ab) S4 ⟨ab, rfl, hfb, rob⟩ fun _ => ⟨ob, rfl, ab, rfl, S1.dom _ hb0, hh2⟩
      exact ⟨_, _, rfl, hq F2 _ H2 S5 R5⟩
    | _ => exact hq.elim
  | _ => cases rb <;> exact hq.elim
end
theorem noat_of {K : PySem.W.Frag} {C : Addr} {f : Str} (h : decide (PySem.W.findIn K (.ref C) f = some none) = true) : NoAttr K C f := (of_decide_eq_true h : PySem.W.findIn K (.ref C) f = some none)
theorem pvN {X : Cx} {x : Str} {pos : Pos} {N : List Str} (i : Nat) (hN : X.N = N) (hv : X.env.scope.names.lookup x = some .local) (h : N[i]? = some x := by rfl) (hd : (x == ("__debug__" : Str)) = false := by decide) (hcd : (x == ("__classdict__" : Str)) = false := by decide) : PE X (.Name x pos) (tVar i) := pe_var (by rw [hN]; exact h) (.inl hv) hd hcd
end DL
end
noncomputable section
set_option maxHeartbeats 4000000
namespace K03
open PySem PySem.Spec L2 DL
abbrev P0 : Program := PySem.Challenge.pw_looseorder_k03_frames_of_verbs
def top (i : Nat) : Stmt := P0.main.body.getD i (.Pass ⟨0, 0, 0, 0⟩)
def meth (i j : Nat) : Stmt := match top i with
  | .ClassDef _ _ _ b _ _ _ _ _ _ _ => b.getD j (.Pass ⟨0, 0, 0, 0⟩)
  | s => s
def d__law_hand : DF := ⟨.glo "_law_hand", "_law_hand", "_law_hand", (top 16), [], false⟩
def d__law_mixed : DF := ⟨.glo "_law_mixed", "_law_mixed", "_law_mixed", (top 17), [], false⟩
def d__law_take : DF := ⟨.glo "_law_take", "_law_take", "_law_take", (top 18), [], false⟩
def d__law_word : DF := ⟨.glo "_law_word", "_law_word", "_law_word", (top 21), [], false⟩
def d__law_shuffled : DF := ⟨.glo "_law_shuffled", "_law_shuffled", "_law_shuffled", (top 19), [], false⟩
def d__law_some : DF := ⟨.glo "_law_some", "_law_some", "_law_some", (top 20), [], false⟩
def d_BadFrameq_initq : DF := ⟨.met "BadFrame" "__init__", "__init__", "BadFrame.__init__", (meth 3 0), [], true⟩
def d_is_whole : DF := ⟨.glo "is_whole", "is_whole", "is_whole", (top 6), [(.non), (.non)], false⟩
def d_check_nouns : DF := ⟨.glo "check_nouns", "check_nouns", "check_nouns", (top 13), [], false⟩
def d_has_letters : DF := ⟨.glo "has_letters", "has_letters", "has_letters", (top 7), [], false⟩
def d_is_name : DF := ⟨.glo "is_name", "is_name", "is_name", (top 8), [], false⟩
def d_Frameq_initq : DF := ⟨.met "Frame" "__init__", "__init__", "Frame.__init__", (meth 14 0), [(.non), (.non)], false⟩
def d__law_told : DF := ⟨.glo "_law_told", "_law_told", "_law_told", (top 24), [], false⟩
def d_Frameq_eqq : DF := ⟨.met "Frame" "__eq__", "__eq__", "Frame.__eq__", (meth 14 1), [], false⟩
def d__law_as_list : DF := ⟨.glo "_law_as_list", "_law_as_list", "_law_as_list", (top 22), [], false⟩
def d__law_no_role : DF := ⟨.glo "_law_no_role", "_law_no_role", "_law_no_role", (top 23), [], false⟩
def d__law_no_nouns : DF := ⟨.glo "_law_no_nouns", "_law_no_nouns", "_law_no_nouns", (top 26), [], false⟩
def d_Frame_slots : DF := ⟨.prp "Frame" "slots", "slots", "Frame.slots", (meth 14 2), [], false⟩
def d__law_shows : DF := ⟨.glo "_law_shows", "_law_shows", "_law_shows", (top 25), [], false⟩
def d_law : DF := ⟨.glo "law", "law", "law", (top 27), [], false⟩
def fs : List Pf := [
  fun K => freeB K "len",
  fun K => freeB K "int",
  fun K => globB K "_law_mixed",
  fun K => globB K "_law_take",
  fun K => freeB K "range",
  fun K => freeB K "list",
  fun K => globB K "_law_shuffled",
  fun K => freeB K "sorted",
  fun K => freeB K "tuple",
  fun K => supB P0 K ((d_BadFrameq_initq).at_.ad K) (He.ga K "BadFrame"),
  fun K => decide (PySem.W.findIn K (.ref (He.ga K "BadFrame")) "what" = some none),
  fun K => supCB K (He.ga K "BadFrame"),
  fun K => freeB K "super",
  fun K => decide (PySem.W.nsIn K cStatics "thirdparty.any" = some none),
  fun K => kitOB K (.type "int") [("NoneType", false), ("bool", true), ("int", true), ("str", false), ("tuple", false), ("list", false)] [((He.ga K "Frame"), false)],
  fun K => globB K "Frame",
  fun K => tycB K (He.ga K "Frame"),
  fun K => freeB K "isinstance",
  fun K => kitOB K (.type "bool") [("NoneType", false), ("bool", true), ("int", false), ("str", false), ("tuple", false), ("list", false)] [((He.ga K "Frame"), false)],
  fun K => freeB K "bool",
  fun K => kitAB K [.type "list", .type "tuple"] [("NoneType", false), ("bool", false), ("int", false), ("str", false), ("tuple", true), ("list", true)] [((He.ga K "Frame"), false)],
  fun K => (He.Fa.int "MOST_NOUNS" (5)).ok K,
  fun K => initB K (He.ga K "BadFrame") ((Pa.met "BadFrame" "__init__").ad K),
  fun K => oexB K (He.ga K "BadFrame"),
  fun K => globB K "BadFrame",
  fun K => (He.Fa.int "MOST_ROLES" (6)).ok K,
  fun K => globB K "is_whole",
  fun K => (He.Fa.str "LETTERS" "abcdefghijklmnopqrstuvwxyz").ok K,
  fun K => kitOB K (.type "str") [("NoneType", false), ("bool", false), ("int", false), ("str", true), ("tuple", false), ("list", false)] [((He.ga K "Frame"), false)],
  fun K => freeB K "str",
  fun K => globB K "has_letters",
  fun K => (He.Fa.int "LONGEST_NAME" (8)).ok K,
  fun K => globB K "is_name",
  fun K => clsB K (He.ga K "Frame"),
  fun K => decide (PySem.W.findIn K (.ref (He.ga K "Frame")) "name" = some none),
  fun K => globB K "check_nouns",
  fun K => decide (PySem.W.findIn K (.ref (He.ga K "Frame")) "nouns" = some none),
  fun K => decide (PySem.W.findIn K (.ref (He.ga K "Frame")) "clause" = some none),
  fun K => decide (PySem.W.findIn K (.ref (He.ga K "Frame")) "agreed" = some none),
  fun K => mkB K (He.ga K "Frame") ((Pa.met "Frame" "__init__").ad K),
  fun K => globB K "TongueError",
  fun K => decide (PySem.W.exmOne K (.ref (He.ga K "TongueError")) (.ref (He.ga K "TongueError")) = some true),
  fun K => globB K "BadStock",
  fun K => decide (PySem.W.exmOne K (.ref (He.ga K "BadStock")) (.ref (He.ga K "TongueError")) = some true),
  fun K => decide (PySem.W.exmOne K (.ref (He.ga K "BadFrame")) (.ref (He.ga K "TongueError")) = some true),
  fun K => excCB K (He.ga K "TongueError"),
  fun K => decide (PySem.W.kitOne K (.ref (He.ga K "TongueError")) (.ref (He.ga K "BadFrame")) = some false),
  fun K => excCB K (He.ga K "BadStock"),
  fun K => decide (PySem.W.kitOne K (.ref (He.ga K "BadStock")) (.ref (He.ga K "BadFrame")) = some false),
  fun K => excCB K (He.ga K "BadFrame"),
  fun K => decide (PySem.W.kitOne K (.ref (He.ga K "BadFrame")) (.ref (He.ga K "BadFrame")) = some true),
  fun K => decide (PySem.W.kitOne K (.ref (He.ga K "TongueError")) (.ref (He.ga K "BadStock")) = some false),
  fun K => decide (PySem.W.kitOne K (.ref (He.ga K "BadStock")) (.ref (He.ga K "BadStock")) = some true),
  fun K => decide (PySem.W.kitOne K (.ref (He.ga K "BadFrame")) (.ref (He.ga K "BadStock")) = some false),
  fun K => decide (PySem.W.kitOne K (.ref (He.ga K "TongueError")) (.type "ValueError") = some true),
  fun K => decide (PySem.W.kitOne K (.ref (He.ga K "BadStock")) (.type "ValueError") = some true),
  fun K => decide (PySem.W.kitOne K (.ref (He.ga K "BadFrame")) (.type "ValueError") = some true),
  fun K => freeB K "ValueError",
  fun K => decide (PySem.W.findIn K (.ref (He.ga K "BadStock")) "what" = some none),
  fun K => kitOB K (.ref (He.ga K "Frame")) [("NoneType", false), ("bool", false), ("int", false), ("str", false), ("tuple", false), ("list", false)] [((He.ga K "Frame"), true)],
  fun K => globB K "_law_no_role",
  fun K => kitOB K (.type "tuple") [("NoneType", false), ("bool", false), ("int", false), ("str", false), ("tuple", true), ("list", false)] [((He.ga K "Frame"), false)],
  fun K => propB K (He.ga K "Frame") "slots" (He.ma K (He.ga K "Frame") "slots") ((Pa.prp "Frame" "slots").ad K),
  fun K => globB K "_law_hand",
  fun K => globB K "_law_word",
  fun K => globB K "_law_some",
  fun K => globB K "_law_as_list",
  fun K => globB K "_law_told",
  fun K => globB K "_law_shows",
  fun K => ["NoneType", "bool", "int", "str", "tuple"].all fun t => decide (PySem.W.subIn K (.type t) (.ref (He.ga K "Frame")) = some false),
  fun K => ownEqB K (He.ga K "Frame") ((Pa.met "Frame" "__eq__").ad K),
  fun K => globB K "_law_no_nouns",
  fun K => freeB K "repr",
  fun K => globB K "law"]
def ds : List DF := [d__law_hand, d__law_mixed, d__law_take, d__law_word, d__law_shuffled, d__law_some, d_BadFrameq_initq, d_is_whole, d_check_nouns, d_has_letters, d_is_name, d_Frameq_initq, d__law_told, d_Frameq_eqq, d__law_as_list, d__law_no_role, d__law_no_nouns, d_Frame_slots, d__law_shows, d_law]
theorem l0 {K : PySem.W.Frag} {mg : Str → Option Value} (T : Tx fs ds K mg) : IsiOk K mg (fun t => PySem.W.kitOne K t (.type "int")) [("NoneType", false), ("bool", true), ("int", true), ("str", false), ("tuple", false), ("list", false)] [("Frame", false)] := isi_of (T.c.fact (i := 14) rfl) (by
  intro p hp
  simp only [List.mem_cons, List.not_mem_nil, or_false] at hp
  rcases hp with rfl
  · exact ⟨(T.glo 15 rfl), tycB_ok (T.c.fact (i := 16) rfl)⟩)

theorem l1 {K : PySem.W.Frag} {mg : Str → Option Value} (T : Tx fs ds K mg) : IsiOk K mg (fun t => PySem.W.kitOne K t (.type "bool")) [("NoneType", false), ("bool", true), ("int", false), ("str", false), ("tuple", false), ("list", false)] [("Frame", false)] := isi_of (T.c.fact (i := 18) rfl) (by
  intro p hp
  simp only [List.mem_cons, List.not_mem_nil, or_false] at hp
  rcases hp with rfl
  · exact ⟨(T.glo 15 rfl), tycB_ok (T.c.fact (i := 16) rfl)⟩)

theorem l2 {K : PySem.W.Frag} {mg : Str → Option Value} (T : Tx fs ds K mg) : IsiOk K mg (fun t => PySem.W.kitAny K t [.type "list", .type "tuple"]) [("NoneType", false), ("bool", false), ("int", false), ("str", false), ("tuple", true), ("list", true)] [("Frame", false)] := isi_ofT (T.c.fact (i := 20) rfl) (by
  intro p hp
  simp only [List.mem_cons, List.not_mem_nil, or_false] at hp
  rcases hp with rfl
  · exact ⟨(T.glo 15 rfl), tycB_ok (T.c.fact (i := 16) rfl)⟩)

theorem l3 {K : PySem.W.Frag} {mg : Str → Option Value} (T : Tx fs ds K mg) : IsiOk K mg (fun t => PySem.W.kitOne K t (.type "str")) [("NoneType", false), ("bool", false), ("int", false), ("str", true), ("tuple", false), ("list", false)] [("Frame", false)] := isi_of (T.c.fact (i := 28) rfl) (by
  intro p hp
  simp only [List.mem_cons, List.not_mem_nil, or_false] at hp
  rcases hp with rfl
  · exact ⟨(T.glo 15 rfl), tycB_ok (T.c.fact (i := 16) rfl)⟩)

theorem l4 {K : PySem.W.Frag} {mg : Str → Option Value} (T : Tx fs ds K mg) : ClsOk K mg "name" ["Frame"] := by
  intro c hc
  simp only [List.mem_cons, List.not_mem_nil, or_false] at hc
  rcases hc with rfl
  · exact ⟨_, (T.glo 15 rfl), clsB_ok (T.c.fact (i := 33) rfl), noat_of (T.c.fact (i := 34) rfl)⟩

theorem l5 {K : PySem.W.Frag} {mg : Str → Option Value} (T : Tx fs ds K mg) : ClsOk K mg "nouns" ["Frame"] := by
  intro c hc
  simp only [List.mem_cons, List.not_mem_nil, or_false] at hc
  rcases hc with rfl
  · exact ⟨_, (T.glo 15 rfl), clsB_ok (T.c.fact (i := 33) rfl), noat_of (T.c.fact (i := 36) rfl)⟩

theorem l6 {K : PySem.W.Frag} {mg : Str → Option Value} (T : Tx fs ds K mg) : ClsOk K mg "clause" ["Frame"] := by
  intro c hc
  simp only [List.mem_cons, List.not_mem_nil, or_false] at hc
  rcases hc with rfl
  · exact ⟨_, (T.glo 15 rfl), clsB_ok (T.c.fact (i := 33) rfl), noat_of (T.c.fact (i := 37) rfl)⟩

theorem l7 {K : PySem.W.Frag} {mg : Str → Option Value} (T : Tx fs ds K mg) : ClsOk K mg "agreed" ["Frame"] := by
  intro c hc
  simp only [List.mem_cons, List.not_mem_nil, or_false] at hc
  rcases hc with rfl
  · exact ⟨_, (T.glo 15 rfl), clsB_ok (T.c.fact (i := 33) rfl), noat_of (T.c.fact (i := 38) rfl)⟩

theorem l8 {K : PySem.W.Frag} {mg : Str → Option Value} (T : Tx fs ds K mg) : ∀ p ∈ ([("TongueError", true), ("BadStock", true), ("BadFrame", true)] : List (Str × Bool)), ∃ C, mg p.1 = some (.ref C) ∧ PySem.W.exmOne K (.ref C) (.ref (He.ga K "TongueError")) = some p.2 := by
  intro p hp
  simp only [List.mem_cons, List.not_mem_nil, or_false] at hp
  rcases hp with rfl | rfl | rfl
  · exact ⟨_, (T.glo 40 rfl), of_decide_eq_true (T.c.fact (i := 41) rfl)⟩
  · exact ⟨_, (T.glo 42 rfl), of_decide_eq_true (T.c.fact (i := 43) rfl)⟩
  · exact ⟨_, (T.glo 24 rfl), of_decide_eq_true (T.c.fact (i := 44) rfl)⟩

theorem l9 {K : PySem.W.Frag} {mg : Str → Option Value} (T : Tx fs ds K mg) : ∀ p ∈ ([("TongueError", false), ("BadStock", false), ("BadFrame", true)] : List (Str × Bool)), ∃ D, mg p.1 = some (.ref D) ∧ ExcC K D ∧ PySem.W.kitOne K (.ref D) (.ref (He.ga K "BadFrame")) = some p.2 := by
  intro p hp
  simp only [List.mem_cons, List.not_mem_nil, or_false] at hp
  rcases hp with rfl | rfl | rfl
  · exact ⟨_, (T.glo 40 rfl), (excCB_ok (T.c.fact (i := 45) rfl)).1, of_decide_eq_true (T.c.fact (i := 46) rfl)⟩
  · exact ⟨_, (T.glo 42 rfl), (excCB_ok (T.c.fact (i := 47) rfl)).1, of_decide_eq_true (T.c.fact (i := 48) rfl)⟩
  · exact ⟨_, (T.glo 24 rfl), (excCB_ok (T.c.fact (i := 49) rfl)).1, of_decide_eq_true (T.c.fact (i := 50) rfl)⟩

theorem l10 {K : PySem.W.Frag} {mg : Str → Option Value} (T : Tx fs ds K mg) : ∀ p ∈ ([("TongueError", false), ("BadStock", true), ("BadFrame", false)] : List (Str × Bool)), ∃ D, mg p.1 = some (.ref D) ∧ ExcC K D ∧ PySem.W.kitOne K (.ref D) (.ref (He.ga K "BadStock")) = some p.2 := by
  intro p hp
  simp only [List.mem_cons, List.not_mem_nil, or_false] at hp
  rcases hp with rfl | rfl | rfl
  · exact ⟨_, (T.glo 40 rfl), (excCB_ok (T.c.fact (i := 45) rfl)).1, of_decide_eq_true (T.c.fact (i := 51) rfl)⟩
  · exact ⟨_, (T.glo 42 rfl), (excCB_ok (T.c.fact (i := 47) rfl)).1, of_decide_eq_true (T.c.fact (i := 52) rfl)⟩
  · exact ⟨_, (T.glo 24 rfl), (excCB_ok (T.c.fact (i := 49) rfl)).1, of_decide_eq_true (T.c.fact (i := 53) rfl)⟩

theorem l11 {K : PySem.W.Frag} {mg : Str → Option Value} (T : Tx fs ds K mg) : ∀ p ∈ ([("TongueError", true), ("BadStock", true), ("BadFrame", true)] : List (Str × Bool)), ∃ D, mg p.1 = some (.ref D) ∧ ExcC K D ∧ PySem.W.kitOne K (.ref D) (.type "ValueError") = some p.2 := by
  intro p hp
  simp only [List.mem_cons, List.not_mem_nil, or_false] at hp
  rcases hp with rfl | rfl | rfl
  · exact ⟨_, (T.glo 40 rfl), (excCB_ok (T.c.fact (i := 45) rfl)).1, of_decide_eq_true (T.c.fact (i := 54) rfl)⟩
  · exact ⟨_, (T.glo 42 rfl), (excCB_ok (T.c.fact (i := 47) rfl)).1, of_decide_eq_true (T.c.fact (i := 55) rfl)⟩
  · exact ⟨_, (T.glo 24 rfl), (excCB_ok (T.c.fact (i := 49) rfl)).1, of_decide_eq_true (T.c.fact (i := 56) rfl)⟩

theorem l12 {K : PySem.W.Frag} {mg : Str → Option Value} (T : Tx fs ds K mg) : ∀ c ∈ (["BadStock", "BadFrame"] : List Str), ∃ D, mg c = some (.ref D) ∧ XfC K D ∧ PySem.W.findIn K (.ref D) "what" = some none := by
  intro c hc
  simp only [List.mem_cons, List.not_mem_nil, or_false] at hc
  rcases hc with rfl | rfl
  · exact ⟨_, (T.glo 42 rfl), (excCB_ok (T.c.fact (i := 47) rfl)).2, of_decide_eq_true (T.c.fact (i := 58) rfl)⟩
  · exact ⟨_, (T.glo 24 rfl), (excCB_ok (T.c.fact (i := 49) rfl)).2, of_decide_eq_true (T.c.fact (i := 10) rfl)⟩

theorem l13 {K : PySem.W.Frag} {mg : Str → Option Value} (T : Tx fs ds K mg) : IsiOk K mg (fun t => PySem.W.kitOne K t (.ref (He.ga K "Frame"))) [("NoneType", false), ("bool", false), ("int", false), ("str", false), ("tuple", false), ("list", false)] [("Frame", true)] := isi_of (T.c.fact (i := 59) rfl) (by
  intro p hp
  simp only [List.mem_cons, List.not_mem_nil, or_false] at hp
  rcases hp with rfl
  · exact ⟨(T.glo 15 rfl), tycB_ok (T.c.fact (i := 16) rfl)⟩)

theorem l14 {K : PySem.W.Frag} {mg : Str → Option Value} (T : Tx fs ds K mg) : IsiOk K mg (fun t => PySem.W.kitOne K t (.type "tuple")) [("NoneType", false), ("bool", false), ("int", false), ("str", false), ("tuple", true), ("list", false)] [("Frame", false)] := isi_of (T.c.fact (i := 61) rfl) (by
  intro p hp
  simp only [List.mem_cons, List.not_mem_nil, or_false] at hp
  rcases hp with rfl
  · exact ⟨(T.glo 15 rfl), tycB_ok (T.c.fact (i := 16) rfl)⟩)

theorem l15 {K : PySem.W.Frag} {mg : Str → Option Value} (T : Tx fs ds K mg) : OwnEqT K mg "Frame" (He.ga K "Frame") ["NoneType", "bool", "int", "str", "tuple"] [] := ⟨(T.glo 15 rfl), tycB_ok (T.c.fact (i := 16) rfl), fun t ht => of_decide_eq_true (List.all_eq_true.mp (T.c.fact (i := 69) rfl) t ht), fun _ h => nomatch h⟩

/-! #### _law_hand -/
def g__law_hand : SSem := (sQ (sA 1 (eOp addD (eU lenD (eN 0)) (eC (.int 31))))
  (sQ (sA 2 (eLst []))
  (sQ (sFor (eN 0) (tgN 3) (sQ (sA 1 (eOp modD (eU intD (eOp addD (eOp mulD (eN 1) (eC (.int 1019))) (eU intD (eN 3)))) (eC (.int 2147483629))))
  (sE (eMut 2 appM [(eIf (cB (eOp geD (eN 3) (eC (.int 0)))) (eU intD (eN 3)) (eNeg (eU intD (eN 3))))]))))
  (sR (eLst [(eN 2), (eC (.int 0)), (eC (.int 0)), (eN 1)])))))
def m__law_hand : FSem := runB g__law_hand 4
theorem sc__law_hand : FnScope ["_law_script", "_law_total", "_law_cells", "_law_cell"] ["_law_script"] (defScope (d__law_hand).st) := ⟨rfl, rfl, rfl, by decide +kernel, rfl, by decide +kernel, by decide +kernel⟩
theorem ok__law_hand {w : World} {K : PySem.W.Frag} {mg : Str → Option Value} (T : Tx fs ds K mg) : ∃ fd, (∀ base : Heap, FnOk P0 w K mg base (L2.CX P0 w) 1 ((d__law_hand).at_.ad K) fd ["_law_script"] (spOf ⟨K, mg, I0⟩ 1 m__law_hand)) ∧ PySem.W.keepIn K (.ref ((d__law_hand).at_.ad K)) = true ∧ (Binds K fd ["_law_script"] []) := by
  obtain ⟨e, c⟩ := T.c.at_ (i := 0) (d := d__law_hand) rfl
  obtain ⟨fd, F⟩ := DF.funD (d := d__law_hand) rfl e c
  have SC := sc__law_hand
  refine ⟨fd, fun base => ?_, F.kp, F.bindsN fun _ _ _ _ _ _ us hl => match us, hl with | [_], _ => rfl⟩
  refine fn_dataD F SC fun cdv A outer s H E hr tk => ?_
  exact (sss_cons (ss_set (i := 1) SC.nd rfl (by first | exact Or.inl rfl | exact Or.inr rfl) (k_add (k_len (T.free 0 rfl) (se_name (pv 0))) se_int))
  (sss_cons (ss_set (i := 2) SC.nd rfl (by first | exact Or.inl rfl | exact Or.inr rfl) (se_lst sl_nil))
  (sss_cons (ss_for (passes_of rfl) rfl (se_name (pv 0)) (st_name (pg_name (i := 3) SC.nd rfl (by first | exact Or.inl rfl | exact Or.inr rfl))) (sss_cons (ss_set (i := 1) SC.nd rfl (by first | exact Or.inl rfl | exact Or.inr rfl) (k_mod (k_int (T.free 1 rfl) (k_add (k_mul (se_name (pv 1)) se_int) (k_int (T.free 1 rfl) (se_name (pv 3))))) se_int))
  (sss_one (ss_expr (k_append (pv 2) (se_if (q_ge (se_name (pv 3)) se_int) (k_int (T.free 1 rfl) (se_name (pv 3))) (se_neg (k_int (T.free 1 rfl) (se_name (pv 3))))))))))
  (sss_one (ss_ret (se_lst (sl_cons (se_name (pv 2)) (sl_cons se_int (sl_cons se_int (sl_cons (se_name (pv 1)) sl_nil))))))))))
/-! #### _law_mixed -/
def g__law_mixed : SSem := (sQ (sA 2 (eOp modD (eU intD (eOp addD (eOp addD (eOp mulD (eN 0) (eC (.int 48271))) (eOp mulD (eN 1) (eC (.int 7919)))) (eC (.int 65537)))) (eC (.int 2147483647))))
  (sQ (sA 3 (eOp modD (eU intD (eOp addD (eOp addD (eOp mulD (eN 2) (eN 2)) (eOp mulD (eN 1) (eC (.int 104729)))) (eOp divD (eN 2) (eC (.int 127))))) (eC (.int 2147483629))))
  (sR (eOp divD (eU intD (eOp modD (eU intD (eOp addD (eOp mulD (eN 3) (eC (.int 69621))) (eOp divD (eN 2) (eC (.int 5))))) (eC (.int 2147483587)))) (eC (.int 16))))))
def m__law_mixed : FSem := runB g__law_mixed 4
theorem sc__law_mixed : FnScope ["_law_number", "_law_turn", "_law_once", "_law_twice"] ["_law_number", "_law_turn"] (defScope (d__law_mixed).st) := ⟨rfl, rfl, rfl, by decide +kernel, rfl, by decide +kernel, by decide +kernel⟩
theorem ok__law_mixed {w : World} {K : PySem.W.Frag} {mg : Str → Option Value} (T : Tx fs ds K mg) : ∃ fd, (∀ base : Heap, FnOk P0 w K mg base (L2.CX P0 w) 1 ((d__law_mixed).at_.ad K) fd ["_law_number", "_law_turn"] (spOf ⟨K, mg, I0⟩ 2 m__law_mixed)) ∧ PySem.W.keepIn K (.ref ((d__law_mixed).at_.ad K)) = true ∧ (Binds K fd ["_law_number", "_law_turn"] []) := by
  obtain ⟨e, c⟩ := T.c.at_ (i := 1) (d := d__law_mixed) rfl
  obtain ⟨fd, F⟩ := DF.funD (d := d__law_mixed) rfl e c
  have SC := sc__law_mixed
  refine ⟨fd, fun base => ?_, F.kp, F.bindsN fun _ _ _ _ _ _ us hl => match us, hl with | [_, _], _ => rfl⟩
  refine fn_dataD F SC fun cdv A outer s H E hr tk => ?_
  exact (sss_cons (ss_set (i := 2) SC.nd rfl (by first | exact Or.inl rfl | exact Or.inr rfl) (k_mod (k_int (T.free 1 rfl) (k_add (k_add (k_mul (se_name (pv 0)) se_int) (k_mul (se_name (pv 1)) se_int)) se_int)) se_int))
  (sss_cons (ss_set (i := 3) SC.nd rfl (by first | exact Or.inl rfl | exact Or.inr rfl) (k_mod (k_int (T.free 1 rfl) (k_add (k_add (k_mul (se_name (pv 2)) (se_name (pv 2))) (k_mul (se_name (pv 1)) se_int)) (k_div (se_name (pv 2)) se_int))) se_int))
  (sss_one (ss_ret (k_div (k_int (T.free 1 rfl) (k_mod (k_int (T.free 1 rfl) (k_add (k_mul (se_name (pv 3)) se_int) (k_div (se_name (pv 2)) se_int))) se_int)) se_int)))))
/-! #### _law_take -/
def g__law_take : SSem := (sQ (sIf (cAnd (cB (eOp eqD (eOp idxD (eN 0) (eC (.int 2))) (eC (.int 0)))) (cB (eOp ltD (eOp idxD (eN 0) (eC (.int 1))) (eU lenD (eOp idxD (eN 0) (eC (.int 0))))))) (sQ (sA 2 (eOp idxD (eOp idxD (eN 0) (eC (.int 0))) (eOp idxD (eN 0) (eC (.int 1)))))
  (sQ (sI 0 (eC (.int 1)) (eOp addD (eOp idxD (eN 0) (eC (.int 1))) (eC (.int 1))))
  (sQ (sIf (cB (eOp ltD (eN 2) (eOp powD (eC (.int 10)) (eC (.int 18))))) (sR (eOp modD (eU intD (eCallD m__law_mixed [] [(eOp modD (eU intD (eN 2)) (eC (.int 2147483647))), (eOp idxD (eN 0) (eC (.int 1)))])) (eN 1))) sN)
  (sI 0 (eC (.int 2)) (eN 2))))) sN)
  (sQ (sIf (cB (eOp gtD (eOp idxD (eN 0) (eC (.int 2))) (eC (.int 0)))) (sQ (sA 3 (eOp idxD (eN 0) (eC (.int 2))))
  (sQ (sI 0 (eC (.int 2)) (eOp divD (eU intD (eN 3)) (eN 1)))
  (sR (eOp modD (eU intD (eN 3)) (eN 1))))) sN)
  (sQ (sI 0 (eC (.int 3)) (eOp modD (eU intD (eOp addD (eOp idxD (eN 0) (eC (.int 3))) (eC (.int 1)))) (eC (.int 2147483629))))
  (sR (eOp modD (eU intD (eCallD m__law_mixed [] [(eOp idxD (eN 0) (eC (.int 3))), (eOp idxD (eN 0) (eC (.int 1)))])) (eN 1))))))
def m__law_take : FSem := runB g__law_take 4
theorem sc__law_take : FnScope ["_law_hand_here", "_law_many", "_law_cell", "_law_rest"] ["_law_hand_here", "_law_many"] (defScope (d__law_take).st) := ⟨rfl, rfl, rfl, by decide +kernel, rfl, by decide +kernel, by decide +kernel⟩
theorem ok__law_take {w : World} {K : PySem.W.Frag} {mg : Str → Option Value} (T : Tx fs ds K mg) : ∃ fd, (∀ base : Heap, FnOk P0 w K mg base (L2.CX P0 w) 2 ((d__law_take).at_.ad K) fd ["_law_hand_here", "_law_many"] (spOf ⟨K, mg, I0⟩ 2 m__law_take)) ∧ PySem.W.keepIn K (.ref ((d__law_take).at_.ad K)) = true ∧ (Binds K fd ["_law_hand_here", "_law_many"] []) := by
  obtain ⟨e, c⟩ := T.c.at_ (i := 2) (d := d__law_take) rfl
  obtain ⟨fd, F⟩ := DF.funD (d := d__law_take) rfl e c
  obtain ⟨fd__law_mixed, Ga__law_mixed, k__law_mixed, B__law_mixed⟩ := ok__law_mixed (w := w) T
  have SC := sc__law_take
  refine ⟨fd, fun base => ?_, F.kp, F.bindsN fun _ _ _ _ _ _ us hl => match us, hl with | [_, _], _ => rfl⟩
  have G__law_mixed := Ga__law_mixed base
  refine fn_dataD F SC fun cdv A outer s H E hr tk => ?_
  exact (sss_cons (ss_if (SW.sc (sw_and (q_eq (u65 hr) (se_idx (se_name (pv 0)) se_int (fun _ _ => rfl)) se_int) (sw_and1 (q_lt (se_idx (se_name (pv 0)) se_int (fun _ _ => rfl)) (k_len (T.free 0 rfl) (se_idx (se_name (pv 0)) se_int (fun _ _ => rfl))))))) (sss_cons (ss_set (i := 2) SC.nd rfl (by first | exact Or.inl rfl | exact Or.inr rfl) (se_idx (se_idx (se_name (pv 0)) se_int (fun _ _ => rfl)) (se_idx (se_name (pv 0)) se_int (fun _ _ => rfl)) (fun _ _ => rfl)))
  (sss_cons (ss_item (pv 0) (k_add (se_idx (se_name (pv 0)) se_int (fun _ _ => rfl)) se_int) se_int)
  (sss_cons (ss_if (q_lt (se_name (pv 2)) (k_pow se_int se_int)) (sss_one (ss_ret (k_mod (k_int (T.free 1 rfl) (se_callD G__law_mixed (hr.mono (by decide)) rfl (T.glo 2 rfl) k__law_mixed B__law_mixed .nil (fun _ => .nil) tk (sa_cons (k_mod (k_int (T.free 1 rfl) (se_name (pv 2))) se_int) (sa_cons (se_idx (se_name (pv 0)) se_int (fun _ _ => rfl)) sa_nil)) rfl)) (se_name (pv 1))))) sss_nil)
  (sss_one (ss_item (pv 0) (se_name (pv 2)) se_int))))) sss_nil)
  (sss_cons (ss_if (q_gt (se_idx (se_name (pv 0)) se_int (fun _ _ => rfl)) se_int) (sss_cons (ss_set (i := 3) SC.nd rfl (by first | exact Or.inl rfl | exact Or.inr rfl) (se_idx (se_name (pv 0)) se_int (fun _ _ => rfl)))
  (sss_cons (ss_item (pv 0) (k_div (k_int (T.free 1 rfl) (se_name (pv 3))) (se_name (pv 1))) se_int)
  (sss_one (ss_ret (k_mod (k_int (T.free 1 rfl) (se_name (pv 3))) (se_name (pv 1))))))) sss_nil)
  (sss_cons (ss_item (pv 0) (k_mod (k_int (T.free 1 rfl) (k_add (se_idx (se_name (pv 0)) se_int (fun _ _ => rfl)) se_int)) se_int) se_int)
  (sss_one (ss_ret (k_mod (k_int (T.free 1 rfl) (se_callD G__law_mixed (hr.mono (by decide)) rfl (T.glo 2 rfl) k__law_mixed B__law_mixed .nil (fun _ => .nil) tk (sa_cons (se_idx (se_name (pv 0)) se_int (fun _ _ => rfl)) (sa_cons (se_idx (se_name (pv 0)) se_int (fun _ _ => rfl)) sa_nil)) rfl)) (se_name (pv 1))))))))
/-! #### _law_word -/
def g__law_word : SSem := (sR (eU (joinD "") (eLcR rngOf1 [(eOp addD (eC (.int 1)) (eCallD m__law_take [] [(eN 0), (eN 1)]))] (.nm 2) cYes (eOp idxD (eC (.str "abcdefghijklmnopqrstuvwxyz")) (eCallD m__law_take [] [(eN 0), (eC (.int 26))])) [2])))
def m__law_word : FSem := runB g__law_word 3
theorem sc__law_word : FnScope ["_law_hand_here", "_law_longest", "_law_k"] ["_law_hand_here", "_law_longest"] (defScope (d__law_word).st) := ⟨rfl, rfl, rfl, by decide +kernel, rfl, by decide +kernel, by decide +kernel⟩
theorem ok__law_word {w : World} {K : PySem.W.Frag} {mg : Str → Option Value} (T : Tx fs ds K mg) : ∃ fd, (∀ base : Heap, FnOk P0 w K mg base (L2.CX P0 w) 3 ((d__law_word).at_.ad K) fd ["_law_hand_here", "_law_longest"] (spOf ⟨K, mg, I0⟩ 2 m__law_word)) ∧ PySem.W.keepIn K (.ref ((d__law_word).at_.ad K)) = true ∧ (Binds K fd ["_law_hand_here", "_law_longest"] []) := by
  obtain ⟨e, c⟩ := T.c.at_ (i := 3) (d := d__law_word) rfl
  obtain ⟨fd, F⟩ := DF.funD (d := d__law_word) rfl e c
  obtain ⟨fd__law_take, Ga__law_take, k__law_take, B__law_take⟩ := ok__law_take (w := w) T
  have SC := sc__law_word
  refine ⟨fd, fun base => ?_, F.kp, F.bindsN fun _ _ _ _ _ _ us hl => match us, hl with | [_, _], _ => rfl⟩
  have G__law_take := Ga__law_take base
  refine fn_dataD F SC fun cdv A outer s H E hr tk => ?_
  exact (sss_one (ss_ret (se_join (se_lc1 rfl SC.nd rfl (T.free 4 rfl) (sl_cons (k_add se_int (se_callD G__law_take (hr.mono (by decide)) rfl (T.glo 3 rfl) k__law_take B__law_take .nil (fun _ => .nil) tk (sa_cons (se_name (pv 0)) (sa_cons (se_name (pv 1)) sa_nil)) rfl)) sl_nil) (own := [("_law_k", 2)]) (blkOk_by (N := ["_law_hand_here", "_law_longest", "_law_k"]) (sc := defScope (d__law_word).st) (by decide +kernel)) (by decide) (fun c => pg_name (i := 2) SC.nd rfl (Or.inl rfl) (Or.inr rfl)) (fun c => spt_nil) (fun c => (se_idx se_str (se_callD G__law_take (hr.mono (by decide)) rfl (T.glo 3 rfl) k__law_take B__law_take .nil (fun _ => .nil) takes0 (sa_cons (se_name (pv 0)) (sa_cons se_int sa_nil)) rfl) (fun _ _ => rfl)))))))
/-! #### _law_shuffled -/
def g__law_shuffled : SSem := (sQ (sPar2 2 3 (eU listD (eN 1)) (eLst []))
  (sQ (sWh (cT (eN 2)) (sE (eMut 3 appM [(eMut 2 popM [(eCallD m__law_take [] [(eN 0), (eU lenD (eN 2))])])])))
  (sR (eN 3))))
def m__law_shuffled : FSem := runB g__law_shuffled 4
theorem sc__law_shuffled : FnScope ["_law_hand_here", "_law_row", "_law_left", "_law_found"] ["_law_hand_here", "_law_row"] (defScope (d__law_shuffled).st) := ⟨rfl, rfl, rfl, by decide +kernel, rfl, by decide +kernel, by decide +kernel⟩
theorem ok__law_shuffled {w : World} {K : PySem.W.Frag} {mg : Str → Option Value} (T : Tx fs ds K mg) : ∃ fd, (∀ base : Heap, FnOk P0 w K mg base (L2.CX P0 w) 3 ((d__law_shuffled).at_.ad K) fd ["_law_hand_here", "_law_row"] (spOf ⟨K, mg, I0⟩ 2 m__law_shuffled)) ∧ PySem.W.keepIn K (.ref ((d__law_shuffled).at_.ad K)) = true ∧ (Binds K fd ["_law_hand_here", "_law_row"] []) := by
  obtain ⟨e, c⟩ := T.c.at_ (i := 4) (d := d__law_shuffled) rfl
  obtain ⟨fd, F⟩ := DF.funD (d := d__law_shuffled) rfl e c
  obtain ⟨fd__law_take, Ga__law_take, k__law_take, B__law_take⟩ := ok__law_take (w := w) T
  have SC := sc__law_shuffled
  refine ⟨fd, fun base => ?_, F.kp, F.bindsN fun _ _ _ _ _ _ us hl => match us, hl with | [_, _], _ => rfl⟩
  have G__law_take := Ga__law_take base
  refine fn_dataD F SC fun cdv A outer s H E hr tk => ?_
  exact (sss_cons (ss_par2 (i := 2) (j := 3) rfl SC.nd rfl rfl (by decide) rfl rfl (k_list (T.free 5 rfl) (se_name (pv 1))) (se_lst sl_nil) rfl)
  (sss_cons (ss_while (passes_of rfl) (q_val (se_name (pv 2))) (sss_one (ss_expr (k_append (pv 3) (k_pop (pv 2) (se_callD G__law_take (hr.mono (by decide)) rfl (T.glo 3 rfl) k__law_take B__law_take .nil (fun _ => .nil) tk (sa_cons (se_name (pv 0)) (sa_cons (k_len (T.free 0 rfl) (se_name (pv 2))) sa_nil)) rfl))))))
  (sss_one (ss_ret (se_name (pv 3))))))
/-! #### _law_some -/
def g__law_some : SSem := (sR (eU tupD (eU srtD (eSlc (eCallD m__law_shuffled [] [(eN 0), (eN 1)]) none (some (eN 2))))))
def m__law_some : FSem := runB g__law_some 3
theorem sc__law_some : FnScope ["_law_hand_here", "_law_row", "_law_many"] ["_law_hand_here", "_law_row", "_law_many"] (defScope (d__law_some).st) := ⟨rfl, rfl, rfl, by decide +kernel, rfl, by decide +kernel, by decide +kernel⟩
theorem ok__law_some {w : World} {K : PySem.W.Frag} {mg : Str → Option Value} (T : Tx fs ds K mg) : ∃ fd, (∀ base : Heap, FnOk P0 w K mg base (L2.CX P0 w) 4 ((d__law_some).at_.ad K) fd ["_law_hand_here", "_law_row", "_law_many"] (spOf ⟨K, mg, I0⟩ 3 m__law_some)) ∧ PySem.W.keepIn K (.ref ((d__law_some).at_.ad K)) = true ∧ (Binds K fd ["_law_hand_here", "_law_row", "_law_many"] []) := by
  obtain ⟨e, c⟩ := T.c.at_ (i := 5) (d := d__law_some) rfl
  obtain ⟨fd, F⟩ := DF.funD (d := d__law_some) rfl e c
  obtain ⟨fd__law_shuffled, Ga__law_shuffled, k__law_shuffled, B__law_shuffled⟩ := ok__law_shuffled (w := w) T
  have SC := sc__law_some
  refine ⟨fd, fun base => ?_, F.kp, F.bindsN fun _ _ _ _ _ _ us hl => match us, hl with | [_, _, _], _ => rfl⟩
  have G__law_shuffled := Ga__law_shuffled base
  refine fn_dataD F SC fun cdv A outer s H E hr tk => ?_
  exact (sss_one (ss_ret (k_tuple (T.free 8 rfl) (k_sorted (T.free 7 rfl) (se_slc (se_callD G__law_shuffled (hr.mono (by decide)) rfl (T.glo 6 rfl) k__law_shuffled B__law_shuffled .nil (fun _ => .nil) tk (sa_cons (se_name (pv 0)) (sa_cons (se_name (pv 1)) sa_nil)) rfl) so_none (so_some (se_name (pv 2))))))))
/-! #### BadFrame.__init__ -/
theorem ok_BadFrameq_initq {w : World} {K : PySem.W.Frag} {mg : Str → Option Value} (T : Tx fs ds K mg) : ∃ fd, (∀ base : Heap, FnOk P0 w K mg base (L2.CX P0 w) 1 ((d_BadFrameq_initq).at_.ad K) fd ["self", "what"] (spErr (He.ga K "BadFrame") 1 [("what", 0)])) ∧ Binds K fd ["self", "what"] [] := by
  obtain ⟨e, c⟩ := T.c.at_ (i := 6) (d := d_BadFrameq_initq) rfl
  obtain ⟨fd, F⟩ := DF.supFn (P := P0) (D := (He.ga K "BadFrame")) rfl rfl e c (T.c.fact (i := 9) rfl)
  refine ⟨fd, fun base => fn_err (k := 0) F ⟨rfl, rfl, rfl, by decide +kernel, rfl, by decide +kernel, by decide +kernel, by decide +kernel⟩ (supCB_ok (T.c.fact (i := 11) rfl)) (by decide) (by
    intro p hp
    simp only [List.mem_cons, List.not_mem_nil, or_false] at hp
    rcases hp with rfl
    · exact ⟨by decide, of_decide_eq_true (T.c.fact (i := 10) rfl)⟩
    ) (by decide) (by decide) 1 rfl rfl rfl rfl (T.free 12 rfl) rfl rfl rfl (by decide +kernel) (of_decide_eq_true (T.c.fact (i := 13) rfl)) (fun _ => rfl) (fun _ => rfl) (fun _ => rfl) (fun _ => rfl) fun X hN hK hs => ⟨(pargs_c pe_str (pargs_v (i := 1) (pvN 1 hN (by rw [hs]; rfl)) (by decide) pargs_nil)), (.cons (ps_ost (pvN 0 hN (by rw [hs]; rfl)) (pvN 1 hN (by rw [hs]; rfl))) .nil)⟩, ?_⟩
  obtain ⟨oc, od, kV, doc, pm, an, cda, ct, osl, cc, ccl, cdd, cvs, ccs, file, tf, cl, cld, csl, rfl, _⟩ := F.ex
  exact .all fun us hl => match us, hl with | [_, _], _ => rfl
/-! #### is_whole -/
def g_is_whole : SSem := (sQ (sIf (cOr (cNot (cT (eU (isiD [("NoneType", false), ("bool", true), ("int", true), ("str", false), ("tuple", false), ("list", false)] [("Frame", false)]) (eN 0)))) (cT (eU (isiD [("NoneType", false), ("bool", true), ("int", false), ("str", false), ("tuple", false), ("list", false)] [("Frame", false)]) (eN 0)))) (sR (eC (.bl false))) sN)
  (sR (eAnd (eOr (eOp isD (eN 1) (eC .non)) (eOp geD (eN 0) (eN 1))) (eOr (eOp isD (eN 2) (eC .non)) (eOp leD (eN 0) (eN 2))))))
def m_is_whole : FSem := runB g_is_whole 3
theorem sc_is_whole : FnScope ["thing", "low", "high"] ["thing", "low", "high"] (defScope (d_is_whole).st) := ⟨rfl, rfl, rfl, by decide +kernel, rfl, by decide +kernel, by decide +kernel⟩
theorem ok_is_whole {w : World} {K : PySem.W.Frag} {mg : Str → Option Value} (T : Tx fs ds K mg) : ∃ fd, (∀ base : Heap, FnOk P0 w K mg base (L2.CX P0 w) 1 ((d_is_whole).at_.ad K) fd ["thing", "low", "high"] (spOf ⟨K, mg, I0⟩ 3 m_is_whole)) ∧ PySem.W.keepIn K (.ref ((d_is_whole).at_.ad K)) = true ∧ (∃ dv, Vals [] dv ∧ Binds K fd ["thing", "low", "high"] dv) ∧ (∃ dv, Vals [(.non)] dv ∧ Binds K fd ["thing", "low", "high"] dv) ∧ (∃ dv, Vals [(.non), (.non)] dv ∧ Binds K fd ["thing", "low", "high"] dv) := by
  obtain ⟨e, c⟩ := T.c.at_ (i := 7) (d := d_is_whole) rfl
  obtain ⟨fd, F⟩ := DF.funD (d := d_is_whole) rfl e c
  have SC := sc_is_whole
  refine ⟨fd, fun base => ?_, F.kp, F.binds1 3 2 (List.cons_ne_nil _ _) rfl fun _ _ _ _ _ _ _ us its h1 h2 => match us, h1, its, h2 with | [_, _, _], _, [_, _], _ => ⟨_, rfl, rfl⟩, F.binds1 2 1 (List.cons_ne_nil _ _) rfl fun _ _ _ _ _ _ _ us its h1 h2 => match us, h1, its, h2 with | [_, _], _, [_, _], _ => ⟨_, rfl, rfl⟩, F.binds1 1 0 (List.cons_ne_nil _ _) rfl fun _ _ _ _ _ _ _ us its h1 h2 => match us, h1, its, h2 with | [_], _, [_, _], _ => ⟨_, rfl, rfl⟩⟩
  refine fn_dataD F SC fun cdv A outer s H E hr tk => ?_
  exact (sss_cons (ss_if (SW.sc (sw_or (sc_not (q_val (se_isi (l0 T) (.ty _) (T.free 17 rfl) (se_name (pv 0)) (pe_bltn (v := .ty "int") rfl (T.free 1 rfl) bt_int rfl)))) (sw_or1 (q_val (se_isi (l1 T) (.ty _) (T.free 17 rfl) (se_name (pv 0)) (pe_bltn (v := .ty "bool") rfl (T.free 19 rfl) bt_bool rfl)))))) (sss_one (ss_ret se_bl)) sss_nil)
  (sss_one (ss_ret (se_and (se_or (k_is (se_name (pv 1)) se_non) (se_one (k_ge (se_name (pv 0)) (se_name (pv 1))))) (se_one (se_or (k_is (se_name (pv 2)) se_non) (se_one (k_le (se_name (pv 0)) (se_name (pv 2))))))))))
/-! #### check_nouns -/
def g_check_nouns : SSem := (sQ (sIf (cOr (cNot (cT (eU (isiD [("NoneType", false), ("bool", false), ("int", false), ("str", false), ("tuple", true), ("list", true)] [("Frame", false)]) (eN 0)))) (cNot (cB (eChain leD leD (eC (.int 1)) (eU lenD (eN 0)) (eC (.int (5))))))) (sRaise "BadFrame" 1 [("what", 0)] [(eC (.str "nouns"))]) sN)
  (sQ (sA 1 (eNeg (eC (.int 1))))
  (sQ (sFor (eN 0) (tgN 2) (sQ (sIf (cNot (cT (eCallD m_is_whole [] [(eN 2), (eOp addD (eN 1) (eC (.int 1))), (eOp subD (eC (.int (6))) (eC (.int 1)))]))) (sRaise "BadFrame" 1 [("what", 0)] [(eC (.str "nouns"))]) sN)
  (sA 1 (eN 2))))
  (sR (eU tupD (eN 0))))))
def m_check_nouns : FSem := runB g_check_nouns 3
theorem sc_check_nouns : FnScope ["nouns", "last", "role"] ["nouns"] (defScope (d_check_nouns).st) := ⟨rfl, rfl, rfl, by decide +kernel, rfl, by decide +kernel, by decide +kernel⟩
theorem ok_check_nouns {w : World} {K : PySem.W.Frag} {mg : Str → Option Value} (T : Tx fs ds K mg) : ∃ fd, (∀ base : Heap, FnOk P0 w K mg base (L2.CX P0 w) 3 ((d_check_nouns).at_.ad K) fd ["nouns"] (spOf ⟨K, mg, I0⟩ 1 m_check_nouns)) ∧ PySem.W.keepIn K (.ref ((d_check_nouns).at_.ad K)) = true ∧ (Binds K fd ["nouns"] []) := by
  obtain ⟨e, c⟩ := T.c.at_ (i := 8) (d := d_check_nouns) rfl
  obtain ⟨fd, F⟩ := DF.funD (d := d_check_nouns) rfl e c
  obtain ⟨fd_BadFrameq_initq, Ga_BadFrameq_initq, B_BadFrameq_initq⟩ := ok_BadFrameq_initq (w := w) T
  obtain ⟨fd_is_whole, Ga_is_whole, k_is_whole, ⟨dv_is_whole_0, V_is_whole_0, B_is_whole_0⟩, ⟨dv_is_whole_1, V_is_whole_1, B_is_whole_1⟩, ⟨dv_is_whole_2, V_is_whole_2, B_is_whole_2⟩⟩ := ok_is_whole (w := w) T
  have SC := sc_check_nouns
  refine ⟨fd, fun base => ?_, F.kp, F.bindsN fun _ _ _ _ _ _ us hl => match us, hl with | [_], _ => rfl⟩
  have G_BadFrameq_initq := Ga_BadFrameq_initq base
  have G_is_whole := Ga_is_whole base
  refine fn_dataD F SC fun cdv A outer s H E hr tk => ?_
  exact (sss_cons (ss_if (SW.sc (sw_or (sc_not (q_val (se_isiT (l2 T) (.cons (.ty _) (.cons (.ty _) .nil)) (by decide) (T.free 17 rfl) (se_name (pv 0)) (pa_cons (pe_bltn (v := .ty "list") rfl (T.free 5 rfl) bt_list rfl) (pa_cons (pe_bltn (v := .ty "tuple") rfl (T.free 8 rfl) bt_tuple rfl) pa_nil)) (fun _ _ _ h => h)))) (sw_or1 (sc_not (sc_chain op_le ops_cmp op_le ops_cmp se_int (k_len (T.free 0 rfl) (se_name (pv 0))) (k_gint (T.int 21 rfl))))))) (sss_one (ss_raise (n := 1) (oexB_ok (T.c.fact (i := 23) rfl)) (initB_ok (T.c.fact (i := 22) rfl)).1 (initB_ok (T.c.fact (i := 22) rfl)).2 G_BadFrameq_initq (hr.mono (by decide)) B_BadFrameq_initq tk rfl rfl (T.glo 24 rfl) (sl_cons se_str sl_nil) (by decide) (by decide))) sss_nil)
  (sss_cons (ss_set (i := 1) SC.nd rfl (by first | exact Or.inl rfl | exact Or.inr rfl) (se_neg se_int))
  (sss_cons (ss_for (passes_of rfl) rfl (se_name (pv 0)) (st_name (pg_name (i := 2) SC.nd rfl (by first | exact Or.inl rfl | exact Or.inr rfl))) (sss_cons (ss_if (sc_not (q_val (se_callD G_is_whole (hr.mono (by decide)) rfl (T.glo 26 rfl) k_is_whole B_is_whole_0 V_is_whole_0 (fun _ => .nil) tk (sa_cons (se_name (pv 2)) (sa_cons (k_add (se_name (pv 1)) se_int) (sa_cons (k_sub (k_gint (T.int 25 rfl)) se_int) sa_nil))) rfl))) (sss_one (ss_raise (n := 1) (oexB_ok (T.c.fact (i := 23) rfl)) (initB_ok (T.c.fact (i := 22) rfl)).1 (initB_ok (T.c.fact (i := 22) rfl)).2 G_BadFrameq_initq (hr.mono (by decide)) B_BadFrameq_initq tk rfl rfl (T.glo 24 rfl) (sl_cons se_str sl_nil) (by decide) (by decide))) sss_nil)
  (sss_one (ss_set (i := 1) SC.nd rfl (by first | exact Or.inl rfl | exact Or.inr rfl) (se_name (pv 2))))))
  (sss_one (ss_ret (k_tuple (T.free 8 rfl) (se_name (pv 0))))))))
/-! #### has_letters -/
def g_has_letters : SSem := (sQ (sFor (eN 0) (tgN 1) (sIf (cB (eOp ninD (eN 1) (eC (.str "abcdefghijklmnopqrstuvwxyz")))) (sR (eC (.bl false))) sN))
  (sR (eC (.bl true))))
def m_has_letters : FSem := runB g_has_letters 2
theorem sc_has_letters : FnScope ["text", "sign"] ["text"] (defScope (d_has_letters).st) := ⟨rfl, rfl, rfl, by decide +kernel, rfl, by decide +kernel, by decide +kernel⟩
theorem ok_has_letters {w : World} {K : PySem.W.Frag} {mg : Str → Option Value} (T : Tx fs ds K mg) : ∃ fd, (∀ base : Heap, FnOk P0 w K mg base (L2.CX P0 w) 1 ((d_has_letters).at_.ad K) fd ["text"] (spOf ⟨K, mg, I0⟩ 1 m_has_letters)) ∧ PySem.W.keepIn K (.ref ((d_has_letters).at_.ad K)) = true ∧ (Binds K fd ["text"] []) := by
  obtain ⟨e, c⟩ := T.c.at_ (i := 9) (d := d_has_letters) rfl
  obtain ⟨fd, F⟩ := DF.funD (d := d_has_letters) rfl e c
  have SC := sc_has_letters
  refine ⟨fd, fun base => ?_, F.kp, F.bindsN fun _ _ _ _ _ _ us hl => match us, hl with | [_], _ => rfl⟩
  refine fn_dataD F SC fun cdv A outer s H E hr tk => ?_
  exact (sss_cons (ss_for (passes_of rfl) rfl (se_name (pv 0)) (st_name (pg_name (i := 1) SC.nd rfl (by first | exact Or.inl rfl | exact Or.inr rfl))) (sss_one (ss_if (q_nin (u65 hr) (se_name (pv 1)) (k_gstr (T.str 27 rfl))) (sss_one (ss_ret se_bl)) sss_nil)))
  (sss_one (ss_ret se_bl)))
/-! #### is_name -/
def g_is_name : SSem := (sR (eAnd (eU (isiD [("NoneType", false), ("bool", false), ("int", false), ("str", true), ("tuple", false), ("list", false)] [("Frame", false)]) (eN 0)) (eAnd (eChain leD leD (eC (.int 1)) (eU lenD (eN 0)) (eN 1)) (eCallD m_has_letters [] [(eN 0)]))))
def m_is_name : FSem := runB g_is_name 2
theorem sc_is_name : FnScope ["thing", "most"] ["thing", "most"] (defScope (d_is_name).st) := ⟨rfl, rfl, rfl, by decide +kernel, rfl, by decide +kernel, by decide +kernel⟩
theorem ok_is_name {w : World} {K : PySem.W.Frag} {mg : Str → Option Value} (T : Tx fs ds K mg) : ∃ fd, (∀ base : Heap, FnOk P0 w K mg base (L2.CX P0 w) 2 ((d_is_name).at_.ad K) fd ["thing", "most"] (spOf ⟨K, mg, I0⟩ 2 m_is_name)) ∧ PySem.W.keepIn K (.ref ((d_is_name).at_.ad K)) = true ∧ (Binds K fd ["thing", "most"] []) := by
  obtain ⟨e, c⟩ := T.c.at_ (i := 10) (d := d_is_name) rfl
  obtain ⟨fd, F⟩ := DF.funD (d := d_is_name) rfl e c
  obtain ⟨fd_has_letters, Ga_has_letters, k_has_letters, B_has_letters⟩ := ok_has_letters (w := w) T
  have SC := sc_is_name
  refine ⟨fd, fun base => ?_, F.kp, F.bindsN fun _ _ _ _ _ _ us hl => match us, hl with | [_, _], _ => rfl⟩
  have G_has_letters := Ga_has_letters base
  refine fn_dataD F SC fun cdv A outer s H E hr tk => ?_
  exact (sss_one (ss_ret (se_and (se_isi (l3 T) (.ty _) (T.free 17 rfl) (se_name (pv 0)) (pe_bltn (v := .ty "str") rfl (T.free 29 rfl) bt_str rfl)) (se_and (se_chain op_le ops_cmp op_le ops_cmp se_int (k_len (T.free 0 rfl) (se_name (pv 0))) (se_name (pv 1))) (se_one (se_callD G_has_letters (hr.mono (by decide)) rfl (T.glo 30 rfl) k_has_letters B_has_letters .nil (fun _ => .nil) tk (sa_cons (se_name (pv 0)) sa_nil) rfl))))))
/-! #### Frame.__init__ -/
def g_Frameq_initq : SSem := (sQ (sIf (cNot (cT (eCallD m_is_name [] [(eN 1), (eC (.int (8)))]))) (sRaise "BadFrame" 1 [("what", 0)] [(eC (.str "name"))]) sN)
  (sQ (sFldS 0 "name" ["Frame"] (eN 1))
  (sQ (sFldS 0 "nouns" ["Frame"] (eCallD m_check_nouns [] [(eN 2)]))
  (sQ (sIf (cAnd (cB (eOp isntD (eN 3) (eC .non))) (cOr (cNot (cT (eCallD m_is_whole [] [(eN 3), (eC (.int 0)), (eOp subD (eC (.int (6))) (eC (.int 1)))]))) (cB (eOp inD (eN 3) (eFld "nouns" ["Frame"] (eN 0)))))) (sRaise "BadFrame" 1 [("what", 0)] [(eC (.str "clause"))]) sN)
  (sQ (sFldS 0 "clause" ["Frame"] (eN 3))
  (sQ (sIf (cAnd (cB (eOp isntD (eN 4) (eC .non))) (cOr (cNot (cT (eCallD m_is_whole [.non, .non] [(eN 4)]))) (cB (eOp ninD (eN 4) (eFld "nouns" ["Frame"] (eN 0)))))) (sRaise "BadFrame" 1 [("what", 0)] [(eC (.str "agreed"))]) sN)
  (sFldS 0 "agreed" ["Frame"] (eN 4))))))))
def m_Frameq_initq : FSem := runB g_Frameq_initq 5
theorem sc_Frameq_initq : FnScope ["self", "name", "nouns", "clause", "agreed"] ["self", "name", "nouns", "clause", "agreed"] (defScope (d_Frameq_initq).st) := ⟨rfl, rfl, rfl, by decide +kernel, rfl, by decide +kernel, by decide +kernel⟩
theorem ok_Frameq_initq {w : World} {K : PySem.W.Frag} {mg : Str → Option Value} (T : Tx fs ds K mg) : ∃ fd, (∀ base : Heap, FnOk P0 w K mg base (L2.CX P0 w) 4 ((d_Frameq_initq).at_.ad K) fd ["self", "name", "nouns", "clause", "agreed"] (spOf ⟨K, mg, I0⟩ 5 m_Frameq_initq)) ∧ PySem.W.keepIn K (.ref ((d_Frameq_initq).at_.ad K)) = true ∧ (∃ dv, Vals [] dv ∧ Binds K fd ["self", "name", "nouns", "clause", "agreed"] dv) ∧ (∃ dv, Vals [(.non)] dv ∧ Binds K fd ["self", "name", "nouns", "clause", "agreed"] dv) ∧ (∃ dv, Vals [(.non), (.non)] dv ∧ Binds K fd ["self", "name", "nouns", "clause", "agreed"] dv) := by
  obtain ⟨e, c⟩ := T.c.at_ (i := 11) (d := d_Frameq_initq) rfl
  obtain ⟨fd, F⟩ := DF.funD (d := d_Frameq_initq) rfl e c
  obtain ⟨fd_is_name, Ga_is_name, k_is_name, B_is_name⟩ := ok_is_name (w := w) T
  obtain ⟨fd_BadFrameq_initq, Ga_BadFrameq_initq, B_BadFrameq_initq⟩ := ok_BadFrameq_initq (w := w) T
  obtain ⟨fd_check_nouns, Ga_check_nouns, k_check_nouns, B_check_nouns⟩ := ok_check_nouns (w := w) T
  obtain ⟨fd_is_whole, Ga_is_whole, k_is_whole, ⟨dv_is_whole_0, V_is_whole_0, B_is_whole_0⟩, ⟨dv_is_whole_1, V_is_whole_1, B_is_whole_1⟩, ⟨dv_is_whole_2, V_is_whole_2, B_is_whole_2⟩⟩ := ok_is_whole (w := w) T
  have SC := sc_Frameq_initq
  refine ⟨fd, fun base => ?_, F.kp, F.binds1 5 2 (List.cons_ne_nil _ _) rfl fun _ _ _ _ _ _ _ us its h1 h2 => match us, h1, its, h2 with | [_, _, _, _, _], _, [_, _], _ => ⟨_, rfl, rfl⟩, F.binds1 4 1 (List.cons_ne_nil _ _) rfl fun _ _ _ _ _ _ _ us its h1 h2 => match us, h1, its, h2 with | [_, _, _, _], _, [_, _], _ => ⟨_, rfl, rfl⟩, F.binds1 3 0 (List.cons_ne_nil _ _) rfl fun _ _ _ _ _ _ _ us its h1 h2 => match us, h1, its, h2 with | [_, _, _], _, [_, _], _ => ⟨_, rfl, rfl⟩⟩
  have G_is_name := Ga_is_name base
  have G_BadFrameq_initq := Ga_BadFrameq_initq base
  have G_check_nouns := Ga_check_nouns base
  have G_is_whole := Ga_is_whole base
  refine fn_dataD F SC fun cdv A outer s H E hr tk => ?_
  exact (sss_cons (ss_if (sc_not (q_val (se_callD G_is_name (hr.mono (by decide)) rfl (T.glo 32 rfl) k_is_name B_is_name .nil (fun _ => .nil) tk (sa_cons (se_name (pv 1)) (sa_cons (k_gint (T.int 31 rfl)) sa_nil)) rfl))) (sss_one (ss_raise (n := 1) (oexB_ok (T.c.fact (i := 23) rfl)) (initB_ok (T.c.fact (i := 22) rfl)).1 (initB_ok (T.c.fact (i := 22) rfl)).2 G_BadFrameq_initq (hr.mono (by decide)) B_BadFrameq_initq tk rfl rfl (T.glo 24 rfl) (sl_cons se_str sl_nil) (by decide) (by decide))) sss_nil)
  (sss_cons (ss_fld (l4 T) (se_name (pv 1)) (pv 0))
  (sss_cons (ss_fld (l5 T) (se_callD G_check_nouns (hr.mono (by decide)) rfl (T.glo 35 rfl) k_check_nouns B_check_nouns .nil (fun _ => .nil) tk (sa_cons (se_name (pv 2)) sa_nil) rfl) (pv 0))
  (sss_cons (ss_if (SW.sc (sw_and (q_isnt (se_name (pv 3)) se_non) (sw_and1 (SW.sc (sw_or (sc_not (q_val (se_callD G_is_whole (hr.mono (by decide)) rfl (T.glo 26 rfl) k_is_whole B_is_whole_0 V_is_whole_0 (fun _ => .nil) tk (sa_cons (se_name (pv 3)) (sa_cons se_int (sa_cons (k_sub (k_gint (T.int 25 rfl)) se_int) sa_nil))) rfl))) (sw_or1 (q_in (u65 hr) (se_name (pv 3)) (se_fld (l5 T) (se_name (pv 0)))))))))) (sss_one (ss_raise (n := 1) (oexB_ok (T.c.fact (i := 23) rfl)) (initB_ok (T.c.fact (i := 22) rfl)).1 (initB_ok (T.c.fact (i := 22) rfl)).2 G_BadFrameq_initq (hr.mono (by decide)) B_BadFrameq_initq tk rfl rfl (T.glo 24 rfl) (sl_cons se_str sl_nil) (by decide) (by decide))) sss_nil)
  (sss_cons (ss_fld (l6 T) (se_name (pv 3)) (pv 0))
  (sss_cons (ss_if (SW.sc (sw_and (q_isnt (se_name (pv 4)) se_non) (sw_and1 (SW.sc (sw_or (sc_not (q_val (se_callD G_is_whole (hr.mono (by decide)) rfl (T.glo 26 rfl) k_is_whole B_is_whole_2 V_is_whole_2 (fun _ => (.cons .non (.cons .non .nil))) tk (sa_cons (se_name (pv 4)) sa_nil) rfl))) (sw_or1 (q_nin (u65 hr) (se_name (pv 4)) (se_fld (l5 T) (se_name (pv 0)))))))))) (sss_one (ss_raise (n := 1) (oexB_ok (T.c.fact (i := 23) rfl)) (initB_ok (T.c.fact (i := 22) rfl)).1 (initB_ok (T.c.fact (i := 22) rfl)).2 G_BadFrameq_initq (hr.mono (by decide)) B_BadFrameq_initq tk rfl rfl (T.glo 24 rfl) (sl_cons se_str sl_nil) (by decide) (by decide))) sss_nil)
  (sss_one (ss_fld (l7 T) (se_name (pv 4)) (pv 0)))))))))
/-! #### _law_told -/
def g__law_told : SSem := (sQ (sTry (sA 5 (eMake "Frame" m_Frameq_initq [] [(eN 0), (eN 1), (eN 2), (eN 3)])) 4 [("TongueError", true), ("BadStock", true), ("BadFrame", true)] (sQ (sIf (cOr (cNot (cT (eIsX 4 [("TongueError", false), ("BadStock", false), ("BadFrame", true)]))) (cOr (cT (eIsX 4 [("TongueError", false), ("BadStock", true), ("BadFrame", false)])) (cNot (cT (eIsX 4 [("TongueError", true), ("BadStock", true), ("BadFrame", true)]))))) (sR (eTup [(eC (.str "other")), (eC (.str ""))])) sN)
  (sR (eTup [(eC (.str "bad")), (eXf 4 "what" ["BadStock", "BadFrame"])]))))
  (sR (eTup [(eC (.str "good")), (eN 5)])))
def m__law_told : FSem := runB g__law_told 6
theorem sc__law_told : FnScope ["_law_name", "_law_nouns", "_law_clause", "_law_agreed", "wrong", "_law_told_here"] ["_law_name", "_law_nouns", "_law_clause", "_law_agreed"] (defScope (d__law_told).st) := ⟨rfl, rfl, rfl, by decide +kernel, rfl, by decide +kernel, by decide +kernel⟩
theorem ok__law_told {w : World} {K : PySem.W.Frag} {mg : Str → Option Value} (T : Tx fs ds K mg) : ∃ fd, (∀ base : Heap, FnOk P0 w K mg base (L2.CX P0 w) 6 ((d__law_told).at_.ad K) fd ["_law_name", "_law_nouns", "_law_clause", "_law_agreed"] (spOf ⟨K, mg, I0⟩ 4 m__law_told)) ∧ PySem.W.keepIn K (.ref ((d__law_told).at_.ad K)) = true ∧ (Binds K fd ["_law_name", "_law_nouns", "_law_clause", "_law_agreed"] []) := by
  obtain ⟨e, c⟩ := T.c.at_ (i := 12) (d := d__law_told) rfl
  obtain ⟨fd, F⟩ := DF.funD (d := d__law_told) rfl e c
  obtain ⟨fd_Frameq_initq, Ga_Frameq_initq, k_Frameq_initq, ⟨dv_Frameq_initq_0, V_Frameq_initq_0, B_Frameq_initq_0⟩, ⟨dv_Frameq_initq_1, V_Frameq_initq_1, B_Frameq_initq_1⟩, ⟨dv_Frameq_initq_2, V_Frameq_initq_2, B_Frameq_initq_2⟩⟩ := ok_Frameq_initq (w := w) T
  have SC := sc__law_told
  refine ⟨fd, fun base => ?_, F.kp, F.bindsN fun _ _ _ _ _ _ us hl => match us, hl with | [_, _, _, _], _ => rfl⟩
  have G_Frameq_initq := Ga_Frameq_initq base
  refine fn_dataD F SC fun cdv A outer s H E hr tk => ?_
  exact (sss_cons (ss_try (i := 4) rfl rfl SC.nd rfl rfl ⟨rfl, by decide, Or.inl (T.glo 40 rfl)⟩ tk (l8 T) (fun W pn xe tk po => (sss_one (ss_set (i := 5) SC.nd rfl (by first | exact Or.inl rfl | exact Or.inr rfl) (se_make (mkB_ok (T.c.fact (i := 39) rfl)) G_Frameq_initq (hr.mono (by decide)) rfl (T.glo 15 rfl) B_Frameq_initq_0 V_Frameq_initq_0 (fun _ => .nil) tk (sa_cons (se_name (pv 0)) (sa_cons (se_name (pv 1)) (sa_cons (se_name (pv 2)) (sa_cons (se_name (pv 3)) sa_nil)))) rfl)))) (fun a oe cls d pn hz hf => (sss_cons (ss_if (SW.sc (sw_or (sc_not (q_val (se_isX hz hf (l9 T) (.own _) (T.free 17 rfl) (pv 4) (pe_glob rfl (T.glo 24 rfl) rfl)))) (sw_or (q_val (se_isX hz hf (l10 T) (.own _) (T.free 17 rfl) (pv 4) (pe_glob rfl (T.glo 42 rfl) rfl))) (sw_or1 (sc_not (q_val (se_isX hz hf (l11 T) (.ty _) (T.free 17 rfl) (pv 4) (pe_bltn (v := .ty "ValueError") rfl (T.free 57 rfl) bt_vE rfl)))))))) (sss_one (ss_ret (se_tup (sl_cons se_str (sl_cons se_str sl_nil))))) sss_nil)
  (sss_one (ss_ret (se_tup (sl_cons se_str (sl_cons (se_xf hz hf (l12 T) (pv 4)) sl_nil))))))))
  (sss_one (ss_ret (se_tup (sl_cons se_str (sl_cons (se_name (pv 5)) sl_nil))))))
/-! #### Frame.__eq__ -/
def g_Frameq_eqq : SSem := (sQ (sIf (cOr (cNot (cT (eU (isiD [("NoneType", false), ("bool", false), ("int", false), ("str", false), ("tuple", false), ("list", false)] [("Frame", true)]) (eN 1)))) (cOr (cB (eOp neD (eFld "name" ["Frame"] (eN 0)) (eFld "name" ["Frame"] (eN 1)))) (cB (eOp neD (eFld "nouns" ["Frame"] (eN 0)) (eFld "nouns" ["Frame"] (eN 1)))))) (sR (eC (.bl false))) sN)
  (sR (eAnd (eOp eqD (eFld "clause" ["Frame"] (eN 0)) (eFld "clause" ["Frame"] (eN 1))) (eOp eqD (eFld "agreed" ["Frame"] (eN 0)) (eFld "agreed" ["Frame"] (eN 1))))))
def m_Frameq_eqq : FSem := runB g_Frameq_eqq 2
theorem sc_Frameq_eqq : FnScope ["self", "other"] ["self", "other"] (defScope (d_Frameq_eqq).st) := ⟨rfl, rfl, rfl, by decide +kernel, rfl, by decide +kernel, by decide +kernel⟩
theorem ok_Frameq_eqq {w : World} {K : PySem.W.Frag} {mg : Str → Option Value} (T : Tx fs ds K mg) : ∃ fd, (∀ base : Heap, FnOk P0 w K mg base (L2.CX P0 w) 1 ((d_Frameq_eqq).at_.ad K) fd ["self", "other"] (spOf ⟨K, mg, I0⟩ 2 m_Frameq_eqq)) ∧ PySem.W.keepIn K (.ref ((d_Frameq_eqq).at_.ad K)) = true ∧ (Binds K fd ["self", "other"] []) := by
  obtain ⟨e, c⟩ := T.c.at_ (i := 13) (d := d_Frameq_eqq) rfl
  obtain ⟨fd, F⟩ := DF.funD (d := d_Frameq_eqq) rfl e c
  have SC := sc_Frameq_eqq
  refine ⟨fd, fun base => ?_, F.kp, F.bindsN fun _ _ _ _ _ _ us hl => match us, hl with | [_, _], _ => rfl⟩
  refine fn_dataD F SC fun cdv A outer s H E hr tk => ?_
  exact (sss_cons (ss_if (SW.sc (sw_or (sc_not (q_val (se_isi (l13 T) (.own _) (T.free 17 rfl) (se_name (pv 1)) (pe_glob rfl (T.glo 15 rfl) rfl)))) (sw_or (q_ne (u65 hr) (se_fld (l4 T) (se_name (pv 0))) (se_fld (l4 T) (se_name (pv 1)))) (sw_or1 (q_ne (u65 hr) (se_fld (l5 T) (se_name (pv 0))) (se_fld (l5 T) (se_name (pv 1)))))))) (sss_one (ss_ret se_bl)) sss_nil)
  (sss_one (ss_ret (se_and (k_eq (u65 hr) (se_fld (l6 T) (se_name (pv 0))) (se_fld (l6 T) (se_name (pv 1)))) (se_one (k_eq (u65 hr) (se_fld (l7 T) (se_name (pv 0))) (se_fld (l7 T) (se_name (pv 1)))))))))
/-! #### _law_as_list -/
def g__law_as_list : SSem := (sR (eIf (cB (eOp eqD (eCallD m__law_take [] [(eN 0), (eC (.int 2))]) (eC (.int 0)))) (eU listD (eN 1)) (eU tupD (eN 1))))
def m__law_as_list : FSem := runB g__law_as_list 2
theorem sc__law_as_list : FnScope ["_law_hand_here", "_law_row"] ["_law_hand_here", "_law_row"] (defScope (d__law_as_list).st) := ⟨rfl, rfl, rfl, by decide +kernel, rfl, by decide +kernel, by decide +kernel⟩
theorem ok__law_as_list {w : World} {K : PySem.W.Frag} {mg : Str → Option Value} (T : Tx fs ds K mg) : ∃ fd, (∀ base : Heap, FnOk P0 w K mg base (L2.CX P0 w) 3 ((d__law_as_list).at_.ad K) fd ["_law_hand_here", "_law_row"] (spOf ⟨K, mg, I0⟩ 2 m__law_as_list)) ∧ PySem.W.keepIn K (.ref ((d__law_as_list).at_.ad K)) = true ∧ (Binds K fd ["_law_hand_here", "_law_row"] []) := by
  obtain ⟨e, c⟩ := T.c.at_ (i := 14) (d := d__law_as_list) rfl
  obtain ⟨fd, F⟩ := DF.funD (d := d__law_as_list) rfl e c
  obtain ⟨fd__law_take, Ga__law_take, k__law_take, B__law_take⟩ := ok__law_take (w := w) T
  have SC := sc__law_as_list
  refine ⟨fd, fun base => ?_, F.kp, F.bindsN fun _ _ _ _ _ _ us hl => match us, hl with | [_, _], _ => rfl⟩
  have G__law_take := Ga__law_take base
  refine fn_dataD F SC fun cdv A outer s H E hr tk => ?_
  exact (sss_one (ss_ret (se_if (q_eq (u65 hr) (se_callD G__law_take (hr.mono (by decide)) rfl (T.glo 3 rfl) k__law_take B__law_take .nil (fun _ => .nil) tk (sa_cons (se_name (pv 0)) (sa_cons se_int sa_nil)) rfl) se_int) (k_list (T.free 5 rfl) (se_name (pv 1))) (k_tuple (T.free 8 rfl) (se_name (pv 1))))))
/-! #### _law_no_role -/
def g__law_no_role : SSem := (sQ (sA 2 (eCallD m__law_take [] [(eN 0), (eC (.int 7))]))
  (sQ (sIf (cB (eOp eqD (eN 2) (eC (.int 0)))) (sR (eC .non)) sN)
  (sQ (sIf (cB (eOp eqD (eN 2) (eC (.int 1)))) (sR (eC (.bl true))) sN)
  (sQ (sIf (cB (eOp eqD (eN 2) (eC (.int 2)))) (sR (eOp subD (eNeg (eC (.int 1))) (eCallD m__law_take [] [(eN 0), (eC (.int 4))]))) sN)
  (sQ (sIf (cB (eOp eqD (eN 2) (eC (.int 3)))) (sR (eOp addD (eOp addD (eN 1) (eOp powD (eC (.int 10)) (eC (.int 21)))) (eCallD m__law_take [] [(eN 0), (eC (.int 1000))]))) sN)
  (sQ (sIf (cB (eOp eqD (eN 2) (eC (.int 4)))) (sR (eC (.str "0"))) sN)
  (sQ (sIf (cB (eOp eqD (eN 2) (eC (.int 5)))) (sR (eC (.bl false))) sN)
  (sR (eOp addD (eN 1) (eCallD m__law_take [] [(eN 0), (eC (.int 3))]))))))))))
def m__law_no_role : FSem := runB g__law_no_role 3
theorem sc__law_no_role : FnScope ["_law_hand_here", "_law_many", "_law_draw"] ["_law_hand_here", "_law_many"] (defScope (d__law_no_role).st) := ⟨rfl, rfl, rfl, by decide +kernel, rfl, by decide +kernel, by decide +kernel⟩
theorem ok__law_no_role {w : World} {K : PySem.W.Frag} {mg : Str → Option Value} (T : Tx fs ds K mg) : ∃ fd, (∀ base : Heap, FnOk P0 w K mg base (L2.CX P0 w) 3 ((d__law_no_role).at_.ad K) fd ["_law_hand_here", "_law_many"] (spOf ⟨K, mg, I0⟩ 2 m__law_no_role)) ∧ PySem.W.keepIn K (.ref ((d__law_no_role).at_.ad K)) = true ∧ (Binds K fd ["_law_hand_here", "_law_many"] []) := by
  obtain ⟨e, c⟩ := T.c.at_ (i := 15) (d := d__law_no_role) rfl
  obtain ⟨fd, F⟩ := DF.funD (d := d__law_no_role) rfl e c
  obtain ⟨fd__law_take, Ga__law_take, k__law_take, B__law_take⟩ := ok__law_take (w := w) T
  have SC := sc__law_no_role
  refine ⟨fd, fun base => ?_, F.kp, F.bindsN fun _ _ _ _ _ _ us hl => match us, hl with | [_, _], _ => rfl⟩
  have G__law_take := Ga__law_take base
  refine fn_dataD F SC fun cdv A outer s H E hr tk => ?_
  exact (sss_cons (ss_set (i := 2) SC.nd rfl (by first | exact Or.inl rfl | exact Or.inr rfl) (se_callD G__law_take (hr.mono (by decide)) rfl (T.glo 3 rfl) k__law_take B__law_take .nil (fun _ => .nil) tk (sa_cons (se_name (pv 0)) (sa_cons se_int sa_nil)) rfl))
  (sss_cons (ss_if (q_eq (u65 hr) (se_name (pv 2)) se_int) (sss_one (ss_ret se_non)) sss_nil)
  (sss_cons (ss_if (q_eq (u65 hr) (se_name (pv 2)) se_int) (sss_one (ss_ret se_bl)) sss_nil)
  (sss_cons (ss_if (q_eq (u65 hr) (se_name (pv 2)) se_int) (sss_one (ss_ret (k_sub (se_neg se_int) (se_callD G__law_take (hr.mono (by decide)) rfl (T.glo 3 rfl) k__law_take B__law_take .nil (fun _ => .nil) tk (sa_cons (se_name (pv 0)) (sa_cons se_int sa_nil)) rfl)))) sss_nil)
  (sss_cons (ss_if (q_eq (u65 hr) (se_name (pv 2)) se_int) (sss_one (ss_ret (k_add (k_add (se_name (pv 1)) (k_pow se_int se_int)) (se_callD G__law_take (hr.mono (by decide)) rfl (T.glo 3 rfl) k__law_take B__law_take .nil (fun _ => .nil) tk (sa_cons (se_name (pv 0)) (sa_cons se_int sa_nil)) rfl)))) sss_nil)
  (sss_cons (ss_if (q_eq (u65 hr) (se_name (pv 2)) se_int) (sss_one (ss_ret se_str)) sss_nil)
  (sss_cons (ss_if (q_eq (u65 hr) (se_name (pv 2)) se_int) (sss_one (ss_ret se_bl)) sss_nil)
  (sss_one (ss_ret (k_add (se_name (pv 1)) (se_callD G__law_take (hr.mono (by decide)) rfl (T.glo 3 rfl) k__law_take B__law_take .nil (fun _ => .nil) tk (sa_cons (se_name (pv 0)) (sa_cons se_int sa_nil)) rfl)))))))))))
/-! #### _law_no_nouns -/
def g__law_no_nouns : SSem := (sQ (sA 2 (eCallD m__law_take [] [(eN 0), (eC (.int 7))]))
  (sQ (sIf (cB (eOp eqD (eN 2) (eC (.int 0)))) (sR (eC .non)) sN)
  (sQ (sIf (cB (eOp eqD (eN 2) (eC (.int 1)))) (sR (eLst [])) sN)
  (sQ (sIf (cB (eOp eqD (eN 2) (eC (.int 2)))) (sR (eTup [(eC (.int 0)), (eC (.int 1)), (eC (.int 2)), (eC (.int 3)), (eC (.int 4)), (eC (.int 5))])) sN)
  (sQ (sIf (cB (eOp eqD (eN 2) (eC (.int 3)))) (sR (eOp addD (eU listD (eN 1)) (eLst [(eOp idxD (eN 1) (eCallD m__law_take [] [(eN 0), (eU lenD (eN 1))]))]))) sN)
  (sQ (sIf (cB (eOp eqD (eN 2) (eC (.int 4)))) (sR (eOp addD (eLst [(eCallD m__law_no_role [] [(eN 0), (eC (.int 6))])]) (eU listD (eN 1)))) sN)
  (sQ (sIf (cB (eOp eqD (eN 2) (eC (.int 5)))) (sR (eOp addD (eU listD (eN 1)) (eLst [(eOp addD (eC (.int 6)) (eCallD m__law_take [] [(eN 0), (eC (.int 3))]))]))) sN)
  (sR (eOp addD (eLst [(eC (.int 5))]) (eU listD (eN 1)))))))))))
def m__law_no_nouns : FSem := runB g__law_no_nouns 3
theorem sc__law_no_nouns : FnScope ["_law_hand_here", "_law_nouns", "_law_draw"] ["_law_hand_here", "_law_nouns"] (defScope (d__law_no_nouns).st) := ⟨rfl, rfl, rfl, by decide +kernel, rfl, by decide +kernel, by decide +kernel⟩
theorem ok__law_no_nouns {w : World} {K : PySem.W.Frag} {mg : Str → Option Value} (T : Tx fs ds K mg) : ∃ fd, (∀ base : Heap, FnOk P0 w K mg base (L2.CX P0 w) 4 ((d__law_no_nouns).at_.ad K) fd ["_law_hand_here", "_law_nouns"] (spOf ⟨K, mg, I0⟩ 2 m__law_no_nouns)) ∧ PySem.W.keepIn K (.ref ((d__law_no_nouns).at_.ad K)) = true ∧ (Binds K fd ["_law_hand_here", "_law_nouns"] []) := by
  obtain ⟨e, c⟩ := T.c.at_ (i := 16) (d := d__law_no_nouns) rfl
  obtain ⟨fd, F⟩ := DF.funD (d := d__law_no_nouns) rfl e c
  obtain ⟨fd__law_take, Ga__law_take, k__law_take, B__law_take⟩ := ok__law_take (w := w) T
  obtain ⟨fd__law_no_role, Ga__law_no_role, k__law_no_role, B__law_no_role⟩ := ok__law_no_role (w := w) T
  have SC := sc__law_no_nouns
  refine ⟨fd, fun base => ?_, F.kp, F.bindsN fun _ _ _ _ _ _ us hl => match us, hl with | [_, _], _ => rfl⟩
  have G__law_take := Ga__law_take base
  have G__law_no_role := Ga__law_no_role base
  refine fn_dataD F SC fun cdv A outer s H E hr tk => ?_
  exact (sss_cons (ss_set (i := 2) SC.nd rfl (by first | exact Or.inl rfl | exact Or.inr rfl) (se_callD G__law_take (hr.mono (by decide)) rfl (T.glo 3 rfl) k__law_take B__law_take .nil (fun _ => .nil) tk (sa_cons (se_name (pv 0)) (sa_cons se_int sa_nil)) rfl))
  (sss_cons (ss_if (q_eq (u65 hr) (se_name (pv 2)) se_int) (sss_one (ss_ret se_non)) sss_nil)
  (sss_cons (ss_if (q_eq (u65 hr) (se_name (pv 2)) se_int) (sss_one (ss_ret (se_lst sl_nil))) sss_nil)
  (sss_cons (ss_if (q_eq (u65 hr) (se_name (pv 2)) se_int) (sss_one (ss_ret (se_tup (sl_cons se_int (sl_cons se_int (sl_cons se_int (sl_cons se_int (sl_cons se_int (sl_cons se_int sl_nil))))))))) sss_nil)
  (sss_cons (ss_if (q_eq (u65 hr) (se_name (pv 2)) se_int) (sss_one (ss_ret (k_add (k_list (T.free 5 rfl) (se_name (pv 1))) (se_lst (sl_cons (se_idx (se_name (pv 1)) (se_callD G__law_take (hr.mono (by decide)) rfl (T.glo 3 rfl) k__law_take B__law_take .nil (fun _ => .nil) tk (sa_cons (se_name (pv 0)) (sa_cons (k_len (T.free 0 rfl) (se_name (pv 1))) sa_nil)) rfl) (fun _ _ => rfl)) sl_nil))))) sss_nil)
  (sss_cons (ss_if (q_eq (u65 hr) (se_name (pv 2)) se_int) (sss_one (ss_ret (k_add (se_lst (sl_cons (se_callD G__law_no_role (hr.mono (by decide)) rfl (T.glo 60 rfl) k__law_no_role B__law_no_role .nil (fun _ => .nil) tk (sa_cons (se_name (pv 0)) (sa_cons se_int sa_nil)) rfl) sl_nil)) (k_list (T.free 5 rfl) (se_name (pv 1)))))) sss_nil)
  (sss_cons (ss_if (q_eq (u65 hr) (se_name (pv 2)) se_int) (sss_one (ss_ret (k_add (k_list (T.free 5 rfl) (se_name (pv 1))) (se_lst (sl_cons (k_add se_int (se_callD G__law_take (hr.mono (by decide)) rfl (T.glo 3 rfl) k__law_take B__law_take .nil (fun _ => .nil) tk (sa_cons (se_name (pv 0)) (sa_cons se_int sa_nil)) rfl)) sl_nil))))) sss_nil)
  (sss_one (ss_ret (k_add (se_lst (sl_cons se_int sl_nil)) (k_list (T.free 5 rfl) (se_name (pv 1)))))))))))))
/-! #### Frame.slots -/
def g_Frame_slots : SSem := (sQ (sIf (cB (eOp isD (eFld "clause" ["Frame"] (eN 0)) (eC .non))) (sR (eFld "nouns" ["Frame"] (eN 0))) sN)
  (sR (eU tupD (eU srtD (eOp addD (eFld "nouns" ["Frame"] (eN 0)) (eTup [(eFld "clause" ["Frame"] (eN 0))]))))))
def m_Frame_slots : FSem := runB g_Frame_slots 1
theorem sc_Frame_slots : FnScope ["self"] ["self"] (defScope (d_Frame_slots).st) := ⟨rfl, rfl, rfl, by decide +kernel, rfl, by decide +kernel, by decide +kernel⟩
theorem ok_Frame_slots {w : World} {K : PySem.W.Frag} {mg : Str → Option Value} (T : Tx fs ds K mg) : ∃ fd, (∀ base : Heap, FnOk P0 w K mg base (L2.CX P0 w) 1 ((d_Frame_slots).at_.ad K) fd ["self"] (spOf ⟨K, mg, I0⟩ 1 m_Frame_slots)) ∧ PySem.W.keepIn K (.ref ((d_Frame_slots).at_.ad K)) = true ∧ (Binds K fd ["self"] []) := by
  obtain ⟨e, c⟩ := T.c.at_ (i := 17) (d := d_Frame_slots) rfl
  obtain ⟨fd, F⟩ := DF.funD (d := d_Frame_slots) rfl e c
  have SC := sc_Frame_slots
  refine ⟨fd, fun base => ?_, F.kp, F.bindsN fun _ _ _ _ _ _ us hl => match us, hl with | [_], _ => rfl⟩
  refine fn_dataD F SC fun cdv A outer s H E hr tk => ?_
  exact (sss_cons (ss_if (q_is (se_fld (l6 T) (se_name (pv 0))) se_non) (sss_one (ss_ret (se_fld (l5 T) (se_name (pv 0))))) sss_nil)
  (sss_one (ss_ret (k_tuple (T.free 8 rfl) (k_sorted (T.free 7 rfl) (k_add (se_fld (l5 T) (se_name (pv 0))) (se_tup (sl_cons (se_fld (l6 T) (se_name (pv 0))) sl_nil))))))))
/-! #### _law_shows -/
def g__law_shows : SSem := (sQ (sIf (cOr (cNot (cT (eU (isiD [("NoneType", false), ("bool", false), ("int", false), ("str", false), ("tuple", false), ("list", false)] [("Frame", true)]) (eN 0)))) (cOr (cB (eOp neD (eFld "name" ["Frame"] (eN 0)) (eN 1))) (cOr (cB (eOp neD (eFld "nouns" ["Frame"] (eN 0)) (eN 2))) (cNot (cT (eU (isiD [("NoneType", false), ("bool", false), ("int", false), ("str", false), ("tuple", true), ("list", false)] [("Frame", false)]) (eFld "nouns" ["Frame"] (eN 0)))))))) (sR (eC (.bl false))) sN)
  (sQ (sIf (cOr (cB (eOp neD (eFld "clause" ["Frame"] (eN 0)) (eN 3))) (cOr (cB (eOp neD (eFld "agreed" ["Frame"] (eN 0)) (eN 4))) (cT (eU (isiD [("NoneType", false), ("bool", true), ("int", false), ("str", false), ("tuple", false), ("list", false)] [("Frame", false)]) (eFld "clause" ["Frame"] (eN 0)))))) (sR (eC (.bl false))) sN)
  (sQ (sA 5 (eU srtD (eOp addD (eU listD (eN 2)) (eLc (eTup [(eN 3)]) (.nm 6) (cB (eOp isntD (eN 6) (eC .non))) (eN 6) [6]))))
  (sR (eOp eqD (eProp "Frame" m_Frame_slots (eN 0)) (eU tupD (eN 5)))))))
def m__law_shows : FSem := runB g__law_shows 7
theorem sc__law_shows : FnScope ["_law_frame", "_law_name", "_law_nouns", "_law_clause", "_law_agreed", "_law_slots", "_law_role"] ["_law_frame", "_law_name", "_law_nouns", "_law_clause", "_law_agreed"] (defScope (d__law_shows).st) := ⟨rfl, rfl, rfl, by decide +kernel, rfl, by decide +kernel, by decide +kernel⟩
theorem ok__law_shows {w : World} {K : PySem.W.Frag} {mg : Str → Option Value} (T : Tx fs ds K mg) : ∃ fd, (∀ base : Heap, FnOk P0 w K mg base (L2.CX P0 w) 3 ((d__law_shows).at_.ad K) fd ["_law_frame", "_law_name", "_law_nouns", "_law_clause", "_law_agreed"] (spOf ⟨K, mg, I0⟩ 5 m__law_shows)) ∧ PySem.W.keepIn K (.ref ((d__law_shows).at_.ad K)) = true ∧ (Binds K fd ["_law_frame", "_law_name", "_law_nouns", "_law_clause", "_law_agreed"] []) := by
  obtain ⟨e, c⟩ := T.c.at_ (i := 18) (d := d__law_shows) rfl
  obtain ⟨fd, F⟩ := DF.funD (d := d__law_shows) rfl e c
  obtain ⟨fd_Frame_slots, Ga_Frame_slots, k_Frame_slots, B_Frame_slots⟩ := ok_Frame_slots (w := w) T
  have SC := sc__law_shows
  refine ⟨fd, fun base => ?_, F.kp, F.bindsN fun _ _ _ _ _ _ us hl => match us, hl with | [_, _, _, _, _], _ => rfl⟩
  have G_Frame_slots := Ga_Frame_slots base
  refine fn_dataD F SC fun cdv A outer s H E hr tk => ?_
  exact (sss_cons (ss_if (SW.sc (sw_or (sc_not (q_val (se_isi (l13 T) (.own _) (T.free 17 rfl) (se_name (pv 0)) (pe_glob rfl (T.glo 15 rfl) rfl)))) (sw_or (q_ne (u65 hr) (se_fld (l4 T) (se_name (pv 0))) (se_name (pv 1))) (sw_or (q_ne (u65 hr) (se_fld (l5 T) (se_name (pv 0))) (se_name (pv 2))) (sw_or1 (sc_not (q_val (se_isi (l14 T) (.ty _) (T.free 17 rfl) (se_fld (l5 T) (se_name (pv 0))) (pe_bltn (v := .ty "tuple") rfl (T.free 8 rfl) bt_tuple rfl))))))))) (sss_one (ss_ret se_bl)) sss_nil)
  (sss_cons (ss_if (SW.sc (sw_or (q_ne (u65 hr) (se_fld (l6 T) (se_name (pv 0))) (se_name (pv 3))) (sw_or (q_ne (u65 hr) (se_fld (l7 T) (se_name (pv 0))) (se_name (pv 4))) (sw_or1 (q_val (se_isi (l1 T) (.ty _) (T.free 17 rfl) (se_fld (l6 T) (se_name (pv 0))) (pe_bltn (v := .ty "bool") rfl (T.free 19 rfl) bt_bool rfl))))))) (sss_one (ss_ret se_bl)) sss_nil)
  (sss_cons (ss_set (i := 5) SC.nd rfl (by first | exact Or.inl rfl | exact Or.inr rfl) (k_sorted (T.free 7 rfl) (k_add (k_list (T.free 5 rfl) (se_name (pv 2))) (se_lc rfl SC.nd (se_tup (sl_cons (se_name (pv 3)) sl_nil)) (own := [("_law_role", 6)]) (blkOk_by (N := ["_law_frame", "_law_name", "_law_nouns", "_law_clause", "_law_agreed", "_law_slots", "_law_role"]) (sc := defScope (d__law_shows).st) (by decide +kernel)) (by decide) (fun c => pg_name (i := 6) SC.nd rfl (Or.inl rfl) (Or.inr rfl)) (fun c => spt_one (q_isnt (se_name (pv 6)) se_non)) (fun c => (se_name (pv 6)))))))
  (sss_one (ss_ret (k_eq (u65 hr) (se_prop (T.glo 15 rfl) (clsB_ok (T.c.fact (i := 33) rfl)) (propB_ok (T.c.fact (i := 62) rfl)) G_Frame_slots (hr.mono (by decide)) B_Frame_slots (se_name (pv 0))) (k_tuple (T.free 8 rfl) (se_name (pv 5)))))))))
/-! #### law -/
def g_law_18 : SSem := (sQ (sI 11 (eC (.int 0)) (eOp idxD (eTup [(eC .non), (eC (.str "")), (eOp addD (eN 3) (eC (.str "abcdefgh"))), (eOp addD (eC (.str "A")) (eSlc (eN 3) (some (eC (.int 1))) none)), (eC (.int 3))]) (eCallD m__law_take [] [(eN 1), (eC (.int 5))])))
  (sE (eMut 10 appM [(eC (.str "name"))])))
def g_law_20 : SSem := (sQ (sI 11 (eC (.int 1)) (eCallD m__law_no_nouns [] [(eN 1), (eN 4)]))
  (sE (eMut 10 appM [(eC (.str "nouns"))])))
def g_law_22 : SSem := (sQ (sI 11 (eC (.int 2)) (eIf (cB (eOp eqD (eCallD m__law_take [] [(eN 1), (eC (.int 2))]) (eC (.int 0)))) (eOp idxD (eN 4) (eCallD m__law_take [] [(eN 1), (eU lenD (eN 4))])) (eCallD m__law_no_role [] [(eN 1), (eC (.int 6))])))
  (sIf (cB (eOp isntD (eOp idxD (eN 11) (eC (.int 2))) (eC .non))) (sE (eMut 10 appM [(eC (.str "clause"))])) sN))
def g_law_24 : SSem := (sQ (sI 11 (eC (.int 3)) (eIf (cB (eOp eqD (eCallD m__law_take [] [(eN 1), (eC (.int 2))]) (eC (.int 0)))) (eOp idxD (eN 5) (eCallD m__law_take [] [(eN 1), (eU lenD (eN 5))])) (eCallD m__law_no_role [] [(eN 1), (eC (.int 6))])))
  (sIf (cB (eOp isntD (eOp idxD (eN 11) (eC (.int 3))) (eC .non))) (sE (eMut 10 appM [(eC (.str "agreed"))])) sN))
def g_law_27 : SSem := (sQ (sIf (cB (eOp eqD (eN 10) (eLst []))) (sIf (cOr (cB (eOp neD (eOp idxD (eN 8) (eC (.int 0))) (eC (.str "good")))) (cNot (cT (eCallD m__law_shows [] [(eOp idxD (eN 8) (eC (.int 1))), (eN 3), (eN 4), (eOp idxD (eN 11) (eC (.int 2))), (eOp idxD (eN 11) (eC (.int 3)))])))) (sR (eC (.bl false))) sN) (sIf (cB (eOp neD (eN 8) (eTup [(eC (.str "bad")), (eOp idxD (eN 10) (eC (.int 0)))]))) (sR (eC (.bl false))) sN))
  (sIf (cB (eOp neD (eU reprD (eN 11)) (eN 12))) (sR (eC (.bl false))) sN))
def g_law_26 : SSem := (sQ (sA 8 (eCallD m__law_told [] [(eOp idxD (eN 11) (eC (.int 0))), (eOp idxD (eN 11) (eC (.int 1))), (eOp idxD (eN 11) (eC (.int 2))), (eOp idxD (eN 11) (eC (.int 3)))]))
  g_law_27)
def g_law_25 : SSem := (sQ (sA 12 (eU reprD (eN 11)))
  g_law_26)
def g_law_23 : SSem := (sQ (sIf (cB (eOp eqD (eCallD m__law_take [] [(eN 1), (eC (.int 4))]) (eC (.int 0)))) g_law_24 sN)
  g_law_25)
def g_law_21 : SSem := (sQ (sIf (cB (eOp eqD (eCallD m__law_take [] [(eN 1), (eC (.int 4))]) (eC (.int 0)))) g_law_22 sN)
  g_law_23)
def g_law_19 : SSem := (sQ (sIf (cB (eOp eqD (eCallD m__law_take [] [(eN 1), (eC (.int 5))]) (eC (.int 0)))) g_law_20 sN)
  g_law_21)
def g_law_17 : SSem := (sQ (sIf (cB (eOp eqD (eCallD m__law_take [] [(eN 1), (eC (.int 6))]) (eC (.int 0)))) g_law_18 sN)
  g_law_19)
def g_law_16 : SSem := (sQ (sA 11 (eLst [(eN 3), (eU listD (eN 4)), (eN 6), (eN 7)]))
  g_law_17)
def g_law_15 : SSem := (sQ (sA 10 (eLst []))
  g_law_16)
def g_law_14 : SSem := (sQ (sIf (cAnd (cB (eOp gtD (eU lenD (eN 4)) (eC (.int 1)))) (cB (eOp (ownEqD "Frame" false m_Frameq_eqq ["NoneType", "bool", "int", "str", "tuple"] []) (eN 9) (eMake "Frame" m_Frameq_initq [.non, .non] [(eN 3), (eSlc (eN 4) (some (eC (.int 1))) none)])))) (sR (eC (.bl false))) sN)
  g_law_15)
def g_law_13 : SSem := (sQ (sIf (cB (eOp (ownEqD "Frame" false m_Frameq_eqq ["NoneType", "bool", "int", "str", "tuple"] []) (eN 9) (eMake "Frame" m_Frameq_initq [.non, .non] [(eIf (cB (eOp ltD (eU lenD (eN 3)) (eC (.int 8)))) (eOp addD (eSlc (eN 3) (some (eC (.int 1))) none) (eC (.str "ab"))) (eSlc (eN 3) (some (eC (.int 1))) none)), (eN 4)]))) (sR (eC (.bl false))) sN)
  g_law_14)
def g_law_12 : SSem := (sQ (sIf (cOr (cB (eOp (ownEqD "Frame" true m_Frameq_eqq ["NoneType", "bool", "int", "str", "tuple"] []) (eOp idxD (eN 8) (eC (.int 1))) (eMake "Frame" m_Frameq_initq [] [(eN 3), (eU listD (eN 4)), (eN 6), (eN 7)]))) (cB (eOp (ownEqD "Frame" false m_Frameq_eqq ["NoneType", "bool", "int", "str", "tuple"] []) (eOp idxD (eN 8) (eC (.int 1))) (eN 4)))) (sR (eC (.bl false))) sN)
  g_law_13)
def g_law_11 : SSem := (sQ (sIf (cOr (cNot (cT (eCallD m__law_shows [] [(eN 9), (eN 3), (eN 4), (eC .non), (eC .non)]))) (cB (eOp neD (eOp (ownEqD "Frame" false m_Frameq_eqq ["NoneType", "bool", "int", "str", "tuple"] []) (eN 9) (eOp idxD (eN 8) (eC (.int 1)))) (eAnd (eOp isD (eN 6) (eC .non)) (eOp isD (eN 7) (eC .non)))))) (sR (eC (.bl false))) sN)
  g_law_12)
def g_law_10 : SSem := (sQ (sA 9 (eMake "Frame" m_Frameq_initq [.non, .non] [(eN 3), (eN 4)]))
  g_law_11)
def g_law_9 : SSem := (sQ (sIf (cOr (cB (eOp neD (eOp idxD (eN 8) (eC (.int 0))) (eC (.str "good")))) (cNot (cT (eCallD m__law_shows [] [(eOp idxD (eN 8) (eC (.int 1))), (eN 3), (eN 4), (eN 6), (eN 7)])))) (sR (eC (.bl false))) sN)
  g_law_10)
def g_law_8 : SSem := (sQ (sA 8 (eCallD m__law_told [] [(eN 3), (eCallD m__law_as_list [] [(eN 1), (eN 4)]), (eN 6), (eN 7)]))
  g_law_9)
def g_law_7 : SSem := (sQ (sA 7 (eIf (cB (eOp eqD (eCallD m__law_take [] [(eN 1), (eC (.int 2))]) (eC (.int 0)))) (eC .non) (eOp idxD (eN 4) (eCallD m__law_take [] [(eN 1), (eU lenD (eN 4))]))))
  g_law_8)
def g_law_6 : SSem := (sQ (sA 6 (eIf (cB (eOp eqD (eCallD m__law_take [] [(eN 1), (eC (.int 2))]) (eC (.int 0)))) (eC .non) (eOp idxD (eN 5) (eCallD m__law_take [] [(eN 1), (eU lenD (eN 5))]))))
  g_law_7)
def g_law_5 : SSem := (sQ (sA 5 (eLcR rngOf1 [(eC (.int 6))] (.nm 13) (cB (eOp ninD (eN 13) (eN 4))) (eN 13) [13]))
  g_law_6)
def g_law_4 : SSem := (sQ (sA 4 (eCallD m__law_some [] [(eN 1), (eLstRg rngOf1 [(eC (.int 6))]), (eOp addD (eC (.int 1)) (eCallD m__law_take [] [(eN 1), (eC (.int 5))]))]))
  g_law_5)
def g_law_3 : SSem := (sQ (sA 3 (eCallD m__law_word [] [(eN 1), (eC (.int 8))]))
  g_law_4)
def g_law_2 : SSem := (sQ (sForR rngOf1 [(eC (.int 4))] (tgN 2) g_law_3)
  (sR (eC (.bl true))))
def g_law_1 : SSem := (sQ (sA 1 (eCallD m__law_hand [] [(eN 0)]))
  g_law_2)
def g_law : SSem := g_law_1
def m_law : FSem := runB g_law 14
theorem sc_law : FnScope ["_law_script", "_law_hand_here", "_law_turn", "_law_name", "_law_nouns", "_law_rest", "_law_clause", "_law_agreed", "_law_told_here", "_law_plain", "_law_words", "_law_parts", "_law_kept", "_law_role"] ["_law_script"] (defScope (d_law).st) := ⟨rfl, rfl, rfl, by decide +kernel, rfl, by decide +kernel, by decide +kernel⟩
theorem ok_law {w : World} {K : PySem.W.Frag} {mg : Str → Option Value} (T : Tx fs ds K mg) : ∃ fd, (∀ base : Heap, FnG P0 w K mg base 7 ((d_law).at_.ad K) fd ["_law_script"] (spOf ⟨K, mg, I0⟩ 1 m_law)) ∧ PySem.W.keepIn K (.ref ((d_law).at_.ad K)) = true ∧ (Binds K fd ["_law_script"] []) ∧ (∀ (s : Shared) (u : Value), BindsTo s fd ⟨[u], []⟩ [("_law_script", u)]) := by
  obtain ⟨e, c⟩ := T.c.at_ (i := 19) (d := d_law) rfl
  obtain ⟨fd, F⟩ := DF.funD (d := d_law) rfl e c
  obtain ⟨fd__law_hand, Ga__law_hand, k__law_hand, B__law_hand⟩ := ok__law_hand (w := w) T
  obtain ⟨fd__law_word, Ga__law_word, k__law_word, B__law_word⟩ := ok__law_word (w := w) T
  obtain ⟨fd__law_some, Ga__law_some, k__law_some, B__law_some⟩ := ok__law_some (w := w) T
  obtain ⟨fd__law_take, Ga__law_take, k__law_take, B__law_take⟩ := ok__law_take (w := w) T
  obtain ⟨fd__law_told, Ga__law_told, k__law_told, B__law_told⟩ := ok__law_told (w := w) T
  obtain ⟨fd__law_as_list, Ga__law_as_list, k__law_as_list, B__law_as_list⟩ := ok__law_as_list (w := w) T
  obtain ⟨fd__law_shows, Ga__law_shows, k__law_shows, B__law_shows⟩ := ok__law_shows (w := w) T
  obtain ⟨fd_Frameq_initq, Ga_Frameq_initq, k_Frameq_initq, ⟨dv_Frameq_initq_0, V_Frameq_initq_0, B_Frameq_initq_0⟩, ⟨dv_Frameq_initq_1, V_Frameq_initq_1, B_Frameq_initq_1⟩, ⟨dv_Frameq_initq_2, V_Frameq_initq_2, B_Frameq_initq_2⟩⟩ := ok_Frameq_initq (w := w) T
  obtain ⟨fd_Frameq_eqq, Ga_Frameq_eqq, k_Frameq_eqq, B_Frameq_eqq⟩ := ok_Frameq_eqq (w := w) T
  obtain ⟨fd__law_no_nouns, Ga__law_no_nouns, k__law_no_nouns, B__law_no_nouns⟩ := ok__law_no_nouns (w := w) T
  obtain ⟨fd__law_no_role, Ga__law_no_role, k__law_no_role, B__law_no_role⟩ := ok__law_no_role (w := w) T
  have SC := sc_law
  refine ⟨fd, fun base => ?_, F.kp, F.bindsN fun _ _ _ _ _ _ us hl => match us, hl with | [_], _ => rfl, fun s u => F.bindsA (ps := ["_law_script"]) (fun _ _ _ _ _ _ us hl => match us, hl with | [_], _ => rfl) s [u] rfl⟩
  have G__law_hand := Ga__law_hand base
  have G__law_word := Ga__law_word base
  have G__law_some := Ga__law_some base
  have G__law_take := Ga__law_take base
  have G__law_told := Ga__law_told base
  have G__law_as_list := Ga__law_as_list base
  have G__law_shows := Ga__law_shows base
  have G_Frameq_initq := Ga_Frameq_initq base
  have G_Frameq_eqq := Ga_Frameq_eqq base
  have G__law_no_nouns := Ga__law_no_nouns base
  have G__law_no_role := Ga__law_no_role base
  refine fn_dataG F SC fun cdv A outer s H E hgd hr tk => ?_
  exact (sss_cons (ss_set (i := 1) SC.nd rfl (by first | exact Or.inl rfl | exact Or.inr rfl) (se_callD G__law_hand (hr.mono (by decide)) rfl (T.glo 63 rfl) k__law_hand B__law_hand .nil (fun _ => .nil) tk (sa_cons (se_name (pv 0)) sa_nil) rfl))
  (sss_cons (ss_for1 (passes_of rfl) rfl rfl (T.free 4 rfl) (sl_cons se_int sl_nil) (st_name (pg_name (i := 2) SC.nd rfl (by first | exact Or.inl rfl | exact Or.inr rfl))) (sss_cons (ss_set (i := 3) SC.nd rfl (by first | exact Or.inl rfl | exact Or.inr rfl) (se_callD G__law_word (hr.mono (by decide)) rfl (T.glo 64 rfl) k__law_word B__law_word .nil (fun _ => .nil) tk (sa_cons (se_name (pv 1)) (sa_cons se_int sa_nil)) rfl))
  (sss_cons (ss_set (i := 4) SC.nd rfl (by first | exact Or.inl rfl | exact Or.inr rfl) (se_callD G__law_some (hr.mono (by decide)) rfl (T.glo 65 rfl) k__law_some B__law_some .nil (fun _ => .nil) tk (sa_cons (se_name (pv 1)) (sa_cons (k_listRg rfl (T.free 5 rfl) (T.free 4 rfl) se_int) (sa_cons (k_add se_int (se_callD G__law_take (hr.mono (by decide)) rfl (T.glo 3 rfl) k__law_take B__law_take .nil (fun _ => .nil) tk (sa_cons (se_name (pv 1)) (sa_cons se_int sa_nil)) rfl)) sa_nil))) rfl))
  (sss_cons (ss_setLc1 rfl SC.nd (i := 5) rfl rfl rfl rfl (T.free 4 rfl) (sl_cons se_int sl_nil) (own := [("_law_role", 13)]) (blkOk_by (N := ["_law_script", "_law_hand_here", "_law_turn", "_law_name", "_law_nouns", "_law_rest", "_law_clause", "_law_agreed", "_law_told_here", "_law_plain", "_law_words", "_law_parts", "_law_kept", "_law_role"]) (sc := defScope (d_law).st) (by decide +kernel)) (by decide) (fun c => pg_name (i := 13) SC.nd rfl (Or.inl rfl) (Or.inr rfl)) (fun c => spt_one (q_nin (u65 hr) (se_name (pv 13)) (se_name (pv 4)))) (fun c => (se_name (pv 13))))
  (sss_cons (ss_set (i := 6) SC.nd rfl (by first | exact Or.inl rfl | exact Or.inr rfl) (se_if (q_eq (u65 hr) (se_callD G__law_take (hr.mono (by decide)) rfl (T.glo 3 rfl) k__law_take B__law_take .nil (fun _ => .nil) tk (sa_cons (se_name (pv 1)) (sa_cons se_int sa_nil)) rfl) se_int) se_non (se_idx (se_name (pv 5)) (se_callD G__law_take (hr.mono (by decide)) rfl (T.glo 3 rfl) k__law_take B__law_take .nil (fun _ => .nil) tk (sa_cons (se_name (pv 1)) (sa_cons (k_len (T.free 0 rfl) (se_name (pv 5))) sa_nil)) rfl) (fun _ _ => rfl))))
  (sss_cons (ss_set (i := 7) SC.nd rfl (by first | exact Or.inl rfl | exact Or.inr rfl) (se_if (q_eq (u65 hr) (se_callD G__law_take (hr.mono (by decide)) rfl (T.glo 3 rfl) k__law_take B__law_take .nil (fun _ => .nil) tk (sa_cons (se_name (pv 1)) (sa_cons se_int sa_nil)) rfl) se_int) se_non (se_idx (se_name (pv 4)) (se_callD G__law_take (hr.mono (by decide)) rfl (T.glo 3 rfl) k__law_take B__law_take .nil (fun _ => .nil) tk (sa_cons (se_name (pv 1)) (sa_cons (k_len (T.free 0 rfl) (se_name (pv 4))) sa_nil)) rfl) (fun _ _ => rfl))))
  (sss_cons (ss_set (i := 8) SC.nd rfl (by first | exact Or.inl rfl | exact Or.inr rfl) (se_callD G__law_told (hr.mono (by decide)) rfl (T.glo 67 rfl) k__law_told B__law_told .nil (fun _ => .nil) tk (sa_cons (se_name (pv 3)) (sa_cons (se_callD G__law_as_list (hr.mono (by decide)) rfl (T.glo 66 rfl) k__law_as_list B__law_as_list .nil (fun _ => .nil) tk (sa_cons (se_name (pv 1)) (sa_cons (se_name (pv 4)) sa_nil)) rfl) (sa_cons (se_name (pv 6)) (sa_cons (se_name (pv 7)) sa_nil)))) rfl))
  (sss_cons (ss_if (SW.sc (sw_or (q_ne (u65 hr) (se_idx (se_name (pv 8)) se_int (fun _ _ => rfl)) se_str) (sw_or1 (sc_not (q_val (se_callD G__law_shows (hr.mono (by decide)) rfl (T.glo 68 rfl) k__law_shows B__law_shows .nil (fun _ => .nil) tk (sa_cons (se_idx (se_name (pv 8)) se_int (fun _ _ => rfl)) (sa_cons (se_name (pv 3)) (sa_cons (se_name (pv 4)) (sa_cons (se_name (pv 6)) (sa_cons (se_name (pv 7)) sa_nil))))) rfl)))))) (sss_one (ss_ret se_bl)) sss_nil)
  (sss_cons (ss_set (i := 9) SC.nd rfl (by first | exact Or.inl rfl | exact Or.inr rfl) (se_make (mkB_ok (T.c.fact (i := 39) rfl)) G_Frameq_initq (hr.mono (by decide)) rfl (T.glo 15 rfl) B_Frameq_initq_2 V_Frameq_initq_2 (fun _ => (.cons .non (.cons .non .nil))) tk (sa_cons (se_name (pv 3)) (sa_cons (se_name (pv 4)) sa_nil)) rfl))
  (sss_cons (ss_if (SW.sc (sw_or (sc_not (q_val (se_callD G__law_shows (hr.mono (by decide)) rfl (T.glo 68 rfl) k__law_shows B__law_shows .nil (fun _ => .nil) tk (sa_cons (se_name (pv 9)) (sa_cons (se_name (pv 3)) (sa_cons (se_name (pv 4)) (sa_cons se_non (sa_cons se_non sa_nil))))) rfl))) (sw_or1 (q_ne (u65 hr) (k_own (ownEqB_ok (T.c.fact (i := 70) rfl)) G_Frameq_eqq (hr.mono (by decide)) B_Frameq_eqq tk (l15 T) (se_name (pv 9)) (se_idx (se_name (pv 8)) se_int (fun _ _ => rfl))) (se_and (k_is (se_name (pv 6)) se_non) (se_one (k_is (se_name (pv 7)) se_non))))))) (sss_one (ss_ret se_bl)) sss_nil)
  (sss_cons (ss_if (SW.sc (sw_or (q_ownNe (ownEqB_ok (T.c.fact (i := 70) rfl)) G_Frameq_eqq (hr.mono (by decide)) B_Frameq_eqq tk (l15 T) (se_idx (se_name (pv 8)) se_int (fun _ _ => rfl)) (se_make (mkB_ok (T.c.fact (i := 39) rfl)) G_Frameq_initq (hr.mono (by decide)) rfl (T.glo 15 rfl) B_Frameq_initq_0 V_Frameq_initq_0 (fun _ => .nil) tk (sa_cons (se_name (pv 3)) (sa_cons (k_list (T.free 5 rfl) (se_name (pv 4))) (sa_cons (se_name (pv 6)) (sa_cons (se_name (pv 7)) sa_nil)))) rfl)) (sw_or1 (q_own (ownEqB_ok (T.c.fact (i := 70) rfl)) G_Frameq_eqq (hr.mono (by decide)) B_Frameq_eqq tk (l15 T) (se_idx (se_name (pv 8)) se_int (fun _ _ => rfl)) (se_name (pv 4)))))) (sss_one (ss_ret se_bl)) sss_nil)
  (sss_cons (ss_if (q_own (ownEqB_ok (T.c.fact (i := 70) rfl)) G_Frameq_eqq (hr.mono (by decide)) B_Frameq_eqq tk (l15 T) (se_name (pv 9)) (se_make (mkB_ok (T.c.fact (i := 39) rfl)) G_Frameq_initq (hr.mono (by decide)) rfl (T.glo 15 rfl) B_Frameq_initq_2 V_Frameq_initq_2 (fun _ => (.cons .non (.cons .non .nil))) tk (sa_cons (se_if (q_lt (k_len (T.free 0 rfl) (se_name (pv 3))) se_int) (k_add (se_slc (se_name (pv 3)) (so_some se_int) so_none) se_str) (se_slc (se_name (pv 3)) (so_some se_int) so_none)) (sa_cons (se_name (pv 4)) sa_nil)) rfl)) (sss_one (ss_ret se_bl)) sss_nil)
  (sss_cons (ss_if (SW.sc (sw_and (q_gt (k_len (T.free 0 rfl) (se_name (pv 4))) se_int) (sw_and1 (q_own (ownEqB_ok (T.c.fact (i := 70) rfl)) G_Frameq_eqq (hr.mono (by decide)) B_Frameq_eqq tk (l15 T) (se_name (pv 9)) (se_make (mkB_ok (T.c.fact (i := 39) rfl)) G_Frameq_initq (hr.mono (by decide)) rfl (T.glo 15 rfl) B_Frameq_initq_2 V_Frameq_initq_2 (fun _ => (.cons .non (.cons .non .nil))) tk (sa_cons (se_name (pv 3)) (sa_cons (se_slc (se_name (pv 4)) (so_some se_int) so_none) sa_nil)) rfl))))) (sss_one (ss_ret se_bl)) sss_nil)
  (sss_cons (ss_set (i := 10) SC.nd rfl (by first | exact Or.inl rfl | exact Or.inr rfl) (se_lst sl_nil))
  (sss_cons (ss_set (i := 11) SC.nd rfl (by first | exact Or.inl rfl | exact Or.inr rfl) (se_lst (sl_cons (se_name (pv 3)) (sl_cons (k_list (T.free 5 rfl) (se_name (pv 4))) (sl_cons (se_name (pv 6)) (sl_cons (se_name (pv 7)) sl_nil))))))
  (sss_cons (ss_if (q_eq (u65 hr) (se_callD G__law_take (hr.mono (by decide)) rfl (T.glo 3 rfl) k__law_take B__law_take .nil (fun _ => .nil) tk (sa_cons (se_name (pv 1)) (sa_cons se_int sa_nil)) rfl) se_int) (sss_cons (ss_item (pv 11) (se_idx (se_tup (sl_cons se_non (sl_cons se_str (sl_cons (k_add (se_name (pv 3)) se_str) (sl_cons (k_add se_str (se_slc (se_name (pv 3)) (so_some se_int) so_none)) (sl_cons se_int sl_nil)))))) (se_callD G__law_take (hr.mono (by decide)) rfl (T.glo 3 rfl) k__law_take B__law_take .nil (fun _ => .nil) tk (sa_cons (se_name (pv 1)) (sa_cons se_int sa_nil)) rfl) (fun _ _ => rfl)) se_int)
  (sss_one (ss_expr (k_append (pv 10) se_str)))) sss_nil)
  (sss_cons (ss_if (q_eq (u65 hr) (se_callD G__law_take (hr.mono (by decide)) rfl (T.glo 3 rfl) k__law_take B__law_take .nil (fun _ => .nil) tk (sa_cons (se_name (pv 1)) (sa_cons se_int sa_nil)) rfl) se_int) (sss_cons (ss_item (pv 11) (se_callD G__law_no_nouns (hr.mono (by decide)) rfl (T.glo 71 rfl) k__law_no_nouns B__law_no_nouns .nil (fun _ => .nil) tk (sa_cons (se_name (pv 1)) (sa_cons (se_name (pv 4)) sa_nil)) rfl) se_int)
  (sss_one (ss_expr (k_append (pv 10) se_str)))) sss_nil)
  (sss_cons (ss_if (q_eq (u65 hr) (se_callD G__law_take (hr.mono (by decide)) rfl (T.glo 3 rfl) k__law_take B__law_take .nil (fun _ => .nil) tk (sa_cons (se_name (pv 1)) (sa_cons se_int sa_nil)) rfl) se_int) (sss_cons (ss_item (pv 11) (se_if (q_eq (u65 hr) (se_callD G__law_take (hr.mono (by decide)) rfl (T.glo 3 rfl) k__law_take B__law_take .nil (fun _ => .nil) tk (sa_cons (se_name (pv 1)) (sa_cons se_int sa_nil)) rfl) se_int) (se_idx (se_name (pv 4)) (se_callD G__law_take (hr.mono (by decide)) rfl (T.glo 3 rfl) k__law_take B__law_take .nil (fun _ => .nil) tk (sa_cons (se_name (pv 1)) (sa_cons (k_len (T.free 0 rfl) (se_name (pv 4))) sa_nil)) rfl) (fun _ _ => rfl)) (se_callD G__law_no_role (hr.mono (by decide)) rfl (T.glo 60 rfl) k__law_no_role B__law_no_role .nil (fun _ => .nil) tk (sa_cons (se_name (pv 1)) (sa_cons se_int sa_nil)) rfl)) se_int)
  (sss_one (ss_if (q_isnt (se_idx (se_name (pv 11)) se_int (fun _ _ => rfl)) se_non) (sss_one (ss_expr (k_append (pv 10) se_str))) sss_nil))) sss_nil)
  (sss_cons (ss_if (q_eq (u65 hr) (se_callD G__law_take (hr.mono (by decide)) rfl (T.glo 3 rfl) k__law_take B__law_take .nil (fun _ => .nil) tk (sa_cons (se_name (pv 1)) (sa_cons se_int sa_nil)) rfl) se_int) (sss_cons (ss_item (pv 11) (se_if (q_eq (u65 hr) (se_callD G__law_take (hr.mono (by decide)) rfl (T.glo 3 rfl) k__law_take B__law_take .nil (fun _ => .nil) tk (sa_cons (se_name (pv 1)) (sa_cons se_int sa_nil)) rfl) se_int) (se_idx (se_name (pv 5)) (se_callD G__law_take (hr.mono (by decide)) rfl (T.glo 3 rfl) k__law_take B__law_take .nil (fun _ => .nil) tk (sa_cons (se_name (pv 1)) (sa_cons (k_len (T.free 0 rfl) (se_name (pv 5))) sa_nil)) rfl) (fun _ _ => rfl)) (se_callD G__law_no_role (hr.mono (by decide)) rfl (T.glo 60 rfl) k__law_no_role B__law_no_role .nil (fun _ => .nil) tk (sa_cons (se_name (pv 1)) (sa_cons se_int sa_nil)) rfl)) se_int)
  (sss_one (ss_if (q_isnt (se_idx (se_name (pv 11)) se_int (fun _ _ => rfl)) se_non) (sss_one (ss_expr (k_append (pv 10) se_str))) sss_nil))) sss_nil)
  (sss_cons (ss_set (i := 12) SC.nd rfl (by first | exact Or.inl rfl | exact Or.inr rfl) (k_repr hgd (u65 hr) (T.free 72 rfl) (se_name (pv 11))))
  (sss_cons (ss_set (i := 8) SC.nd rfl (by first | exact Or.inl rfl | exact Or.inr rfl) (se_callD G__law_told (hr.mono (by decide)) rfl (T.glo 67 rfl) k__law_told B__law_told .nil (fun _ => .nil) tk (sa_cons (se_idx (se_name (pv 11)) se_int (fun _ _ => rfl)) (sa_cons (se_idx (se_name (pv 11)) se_int (fun _ _ => rfl)) (sa_cons (se_idx (se_name (pv 11)) se_int (fun _ _ => rfl)) (sa_cons (se_idx (se_name (pv 11)) se_int (fun _ _ => rfl)) sa_nil)))) rfl))
  (sss_cons (ss_if (q_eq (u65 hr) (se_name (pv 10)) (se_lst sl_nil)) (sss_one (ss_if (SW.sc (sw_or (q_ne (u65 hr) (se_idx (se_name (pv 8)) se_int (fun _ _ => rfl)) se_str) (sw_or1 (sc_not (q_val (se_callD G__law_shows (hr.mono (by decide)) rfl (T.glo 68 rfl) k__law_shows B__law_shows .nil (fun _ => .nil) tk (sa_cons (se_idx (se_name (pv 8)) se_int (fun _ _ => rfl)) (sa_cons (se_name (pv 3)) (sa_cons (se_name (pv 4)) (sa_cons (se_idx (se_name (pv 11)) se_int (fun _ _ => rfl)) (sa_cons (se_idx (se_name (pv 11)) se_int (fun _ _ => rfl)) sa_nil))))) rfl)))))) (sss_one (ss_ret se_bl)) sss_nil)) (sss_one (ss_if (q_ne (u65 hr) (se_name (pv 8)) (se_tup (sl_cons se_str (sl_cons (se_idx (se_name (pv 10)) se_int (fun _ _ => rfl)) sl_nil)))) (sss_one (ss_ret se_bl)) sss_nil)))
  (sss_one (ss_if (q_ne (u65 hr) (k_repr hgd (u65 hr) (T.free 72 rfl) (se_name (pv 11))) (se_name (pv 12))) (sss_one (ss_ret se_bl)) sss_nil))))))))))))))))))))))))
  (sss_one (ss_ret se_bl))))
end K03
end
section
/-! E18: a law's end. -/
namespace DL
open PySem PySem.Spec L2
theorem law_sp {K : PySem.W.Frag} {mg : Str → Option Value} {m : FSem} {n : Nat} (hm : ∀ ns : List Int, ns.length ≤ n → ∃ ρ, m [.fz (.scr ns)] = .ok (.fz (.bl true)) ρ) (H : Hp) (a : Addr) (ns : List Int) (hl : ns.length ≤ n) (hO : Only H) (hS : SqL K H a (ns.map V.int)) :
    spOf ⟨K, mg, I0⟩ 1 m [.ref a] H (fun v _ => v = .bl true) (fun _ _ _ => False) := by
  obtain ⟨ρ, e⟩ := hm ns hl
  let F : Hp := fun b => if b = a then H a else none
  have hF : ∀ b o, F b = some o → H b = some o := fun b o h => by
    by_cases q : b = a
    · subst q; exact (if_pos rfl).symm.trans h
    · have := (if_neg q).symm.trans h; cases this
  have hS2 : SqL K F a (ns.map V.int) := hS.elim (fun h => .inl (h.elim (fun h => .inl ((if_pos rfl).trans h)) fun ⟨o, h⟩ => .inr ⟨o, (if_pos rfl).trans h⟩)) .inr
  refine ⟨F, [.fz (.scr ns)], rfl, rfl, ⟨hF, rfl, fun i sv h => ?_, fun i j b ⟨bb, o, h1, _⟩ => ?_⟩, ?_⟩
  · cases i with
    | zero => cases h; exact ⟨.ref a, rfl, .scr hS2⟩
    | succ i => simp [envOf] at h
  · cases i with
    | zero => cases h1
    | succ i => simp [envOf] at h1
  · rw [e]
    exact fun F' H' v f r => by cases r; rfl
theorem cx_false {P : Program} {w : World} {H : Hp} {s : Shared} {e : Value} {s' : Shared} (z : L2.CX P w [] H s (fun _ _ _ => False) e s') : False := by
  obtain ⟨_, _, _, _, _, _, _, _, _, _, _, _, h⟩ := z
  exact h
end DL
end
noncomputable section
/-! E19: the draws of the laws, in plain Lean. -/
namespace DL
open PySem PySem.Spec L2

theorem log2_small {x : Int} {k : Nat} (h : x.natAbs < 2 ^ k) (hk : 0 < k) : x.natAbs.log2 < k := by
  by_cases z : x.natAbs = 0
  · rw [z]; simpa using hk
  · exact (Nat.log2_lt z).mpr h
theorem mul_small {x y : Int} (hx : x.natAbs < 2 ^ 64) (hy : y.natAbs < 2 ^ 64) : mulD (.int x) (.int y) = some (.fz (.int (x * y))) := by
  have h1 := log2_small hx (by decide)
  have h2 := log2_small hy (by decide)
  simp only [mulD]
  rw [if_pos (by omega)]
theorem mod_eval {x y : Int} (h : 0 < y) : modD (.int x) (.int y) = some (.fz (.int (x % y))) := by simp [modD, gI, h]
theorem div_eval {x y : Int} (h : 0 < y) (h2 : y < 1073741824) : divD (.int x) (.int y) = some (.fz (.int (x / y))) := by simp [divD, gI, h, h2]
def cg_mixed : SSem := (sQ (sA 2 (eOp modD (eU intD (eOp addD (eOp addD (eOp mulD (eN 0) (eC (.int 48271))) (eOp mulD (eN 1) (eC (.int 7919)))) (eC (.int 65537)))) (eC (.int 2147483647))))
  (sQ (sA 3 (eOp modD (eU intD (eOp addD (eOp addD (eOp mulD (eN 2) (eN 2)) (eOp mulD (eN 1) (eC (.int 104729)))) (eOp divD (eN 2) (eC (.int 127))))) (eC (.int 2147483629))))
  (sR (eOp divD (eU intD (eOp modD (eU intD (eOp addD (eOp mulD (eN 3) (eC (.int 69621))) (eOp divD (eN 2) (eC (.int 5))))) (eC (.int 2147483587)))) (eC (.int 16))))))
def cm_mixed : FSem := runB cg_mixed 4
/-- evaluation steps -/
theorem eOp_ok {g : D → D → Option RV} {fa fb : ESem} {ρ ρ1 ρ2 : Env} {ra rb rv : RV} {x y : D} (h1 : fa ρ = .ok ra ρ1) (h2 : fb ρ1 = .ok rb ρ2) (h3 : rd ρ2 ra = some x) (h4 : rd ρ2 rb = some y) (h5 : g x y = some rv) : eOp g fa fb ρ = .ok rv ρ2 := by
  simp only [eOp, h1, Out.bind, h2, h3, h4, h5]
theorem eU_ok {g : D → Option RV} {f : ESem} {ρ ρ1 : Env} {r rv : RV} {x : D} (h1 : f ρ = .ok r ρ1) (h2 : rd ρ1 r = some x) (h3 : g x = some rv) : eU g f ρ = .ok rv ρ1 := by
  simp only [eU, h1, Out.bind, h2, h3]
theorem mixed_ok (a b : Int) (ha : 0 ≤ a) (ha2 : a < 2147483648) (hb : 0 ≤ b) (hb2 : b < 1000) : ∃ r ρ, cm_mixed [.fz (.int a), .fz (.int b)] = .ok (.fz (.int r)) ρ := by
  have e1 : (a * 48271 + b * 7919 + 65537) % 2147483647 < 2147483647 := Int.emod_lt_of_pos _ (by decide)
  have e2 : 0 ≤ (a * 48271 + b * 7919 + 65537) % 2147483647 := Int.emod_nonneg _ (by decide)
  generalize ho : (a * 48271 + b * 7919 + 65537) % 2147483647 = o at e1 e2
  have e3 : (o * o + b * 104729 + o / 127) % 2147483629 < 2147483629 := Int.emod_lt_of_pos _ (by decide)
  have e4 : 0 ≤ (o * o + b * 104729 + o / 127) % 2147483629 := Int.emod_nonneg _ (by decide)
  generalize ht : (o * o + b * 104729 + o / 127) % 2147483629 = t at e3 e4
  refine ⟨(t * 69621 + o / 5) % 2147483587 / 16, [some (.fz (.int a)), some (.fz (.int b)), some (.fz (.int o)), some (.fz (.int t))], ?_⟩
  have m1 := mul_small (x := a) (y := 48271) (by omega) (by decide)
  have m2 := mul_small (x := b) (y := 7919) (by omega) (by decide)
  have m3 := mul_small (x := o) (y := o) (by omega) (by omega)
  have m4 := mul_small (x := b) (y := 104729) (by omega) (by decide)
  have m5 := mul_small (x := t) (y := 69621) (by omega) (by decide)
  have d1 := div_eval (x := o) (y := 127) (by decide) (by decide)
  have d2 := div_eval (x := o) (y := 5) (by decide) (by decide)
  have d3 := div_eval (x := (t * 69621 + o / 5) % 2147483587) (y := 16) (by decide) (by decide)
  have n1 := mod_eval (x := a * 48271 + b * 7919 + 65537) (y := 2147483647) (by decide)
  have n2 := mod_eval (x := o * o + b * 104729 + o / 127) (y := 2147483629) (by decide)
  have n3 := mod_eval (x := t * 69621 + o / 5) (y := 2147483587) (by decide)
  rw [ho] at n1
  rw [ht] at n2
  simp [cm_mixed, runB, cg_mixed, envOf, sQ, SOut.bind, sA, Out.sbind, eOp, Out.bind, eN, eC, eU, rd, m1, m2, m3, m4, m5, d1, d2, d3, n1, n2, n3, addD, intD, putV, sR, retV]
end DL
end
noncomputable section
/-! E20: evaluation by simp. -/
namespace DL
open PySem PySem.Spec L2

section
variable {α β : Type} {a : α} {ρ ρ' : Env} {f : α → Env → Out β} {fs : α → Env → SOut} {g g' : SSem} {c : Str} {xs : List (Str × D)}
@[simp] theorem x_bind_ok : (Out.ok a ρ).bind f = f a ρ := (rfl)
@[simp] theorem x_bind_ex : (Out.ex c xs ρ : Out α).bind f = .ex c xs ρ := (rfl)
@[simp] theorem x_sbind_ok : (Out.ok a ρ).sbind fs = fs a ρ := (rfl)
@[simp] theorem x_sbind_ex : (Out.ex c xs ρ : Out α).sbind fs = .ex c xs ρ := (rfl)
@[simp] theorem x_nx : (SOut.nx ρ).bind g = g ρ := (rfl)
@[simp] theorem x_rt {r : RV} : (SOut.rt r ρ).bind g = .rt r ρ := (rfl)
@[simp] theorem x_bk : (SOut.bk ρ).bind g = .bk ρ := (rfl)
@[simp] theorem x_ct : (SOut.ct ρ).bind g = .ct ρ := (rfl)
@[simp] theorem x_ex : (SOut.ex c xs ρ).bind g = .ex c xs ρ := (rfl)
@[simp] theorem x_nox : (Out.ok a ρ).nox = .ok a ρ := (rfl)
@[simp] theorem x_sQ : sQ g g' ρ = (g ρ).bind g' := (rfl)
@[simp] theorem x_sN : sN ρ = .nx ρ := (rfl)
end
section
variable {ρ : Env} {f fa fb fc : ESem} {fs : List ESem} {g g' : SSem} {cf cg : CSem} {i k : Nat} {d : D} {r : RV}
@[simp] theorem x_sA : sA i f ρ = (f ρ).sbind fun r ρ1 => match putV ρ1 i r with
  | some ρ2 => .nx ρ2
  | none => .no := (rfl)
@[simp] theorem x_sE : sE f ρ = (f ρ).sbind fun _ ρ1 => .nx ρ1 := (rfl)
@[simp] theorem x_sR : sR f ρ = (f ρ).sbind fun r ρ1 => match retV ρ1 r with
  | some (r', ρ2) => .rt r' ρ2
  | none => .no := (rfl)
@[simp] theorem x_sIf : sIf cf g g' ρ = (cf ρ).sbind fun k ρ1 => if k = true then g ρ1 else g' ρ1 := (rfl)
@[simp] theorem x_eC : eC d ρ = .ok (.fz d) ρ := (rfl)
@[simp] theorem x_eN : eN i ρ = match ρ[i]? with
  | some (some (.fz d)) => .ok (.fz d) ρ
  | some (some (.ow _ _)) => .ok (.sl i) ρ
  | some (some (.lk _)) => .ok (.sl i) ρ
  | _ => .no := (rfl)
@[simp] theorem x_eOp {gd : D → D → Option RV} : eOp gd fa fb ρ = (fa ρ).bind fun ra ρ1 => (fb ρ1).bind fun rb ρ2 => match rd ρ2 ra, rd ρ2 rb with
  | some x, some y => (match gd x y with | some r => .ok r ρ2 | none => .no)
  | _, _ => .no := (rfl)
@[simp] theorem x_eU {gd : D → Option RV} : eU gd f ρ = (f ρ).bind fun r ρ1 => match rd ρ1 r with
  | some d => (match gd d with | some r' => .ok r' ρ1 | none => .no)
  | none => .no := (rfl)
@[simp] theorem x_eF : eF f ρ = (f ρ).bind fun r ρ1 => match frz ρ1 r with
  | some (d, ρ2) => .ok d ρ2
  | none => .no := (rfl)
@[simp] theorem x_eL0 : eL [] ρ = .ok [] ρ := (rfl)
@[simp] theorem x_eL1 : eL (f :: fs) ρ = (eF f ρ).bind fun d ρ1 => (eL fs ρ1).bind fun ds ρ2 => .ok (d :: ds) ρ2 := (rfl)
@[simp] theorem x_eP0 : eP [] ρ = .ok [] ρ := (rfl)
@[simp] theorem x_eP1 : eP (f :: fs) ρ = (f ρ).bind fun r ρ1 => match prm ρ1 r with
  | some r' => (eP fs ρ1).bind fun rs ρ2 => .ok (r' :: rs) ρ2
  | none => .no := (rfl)
@[simp] theorem x_eTup : eTup fs ρ = (eL fs ρ).bind fun ds ρ1 => if ds.length ≤ sizeLine then .ok (.fz (.tup ds)) ρ1 else .no := (rfl)
@[simp] theorem x_eLst : eLst fs ρ = (eL fs ρ).bind fun ds ρ1 => if ds.length ≤ sizeLine then .ok (.fr (.lst ds)) ρ1 else .no := (rfl)
@[simp] theorem x_cB : cB f ρ = (f ρ).bind fun r ρ1 => match r with
  | .fz (.bl b) => .ok b ρ1
  | _ => .no := (rfl)
@[simp] theorem x_cT : cT f ρ = (f ρ).bind fun r ρ1 => match rd ρ1 r with
  | some d => (match truthD d with | some b => .ok b ρ1 | none => .no)
  | none => .no := (rfl)
@[simp] theorem x_cNot : cNot cf ρ = (cf ρ).bind fun k ρ1 => .ok (!k) ρ1 := (rfl)
@[simp] theorem x_cAnd : cAnd cf cg ρ = (cf ρ).bind fun k ρ1 => if k = true then cg ρ1 else .ok false ρ1 := (rfl)
@[simp] theorem x_cOr : cOr cf cg ρ = (cf ρ).bind fun k ρ1 => if k = true then .ok true ρ1 else cg ρ1 := (rfl)
@[simp] theorem x_eAnd : eAnd fa fb ρ = (fa ρ).bind fun r ρ1 => match rd ρ1 r with
  | some d => (match truthD d with | some true => fb ρ1 | some false => .ok r ρ1 | none => .no)
  | none => .no := (rfl)
@[simp] theorem x_eOr : eOr fa fb ρ = (fa ρ).bind fun r ρ1 => match rd ρ1 r with
  | some d => (match truthD d with | some true => .ok r ρ1 | some false => fb ρ1 | none => .no)
  | none => .no := (rfl)
@[simp] theorem x_eNeg : eNeg f ρ = (f ρ).bind fun r ρ1 => match rd ρ1 r with
  | some (.int i) => .ok (.fz (.int (-i))) ρ1
  | _ => .no := (rfl)
@[simp] theorem x_eIf : eIf cf fa fb ρ = (cf ρ).bind fun k ρ1 => if k = true then fa ρ1 else fb ρ1 := (rfl)
@[simp] theorem x_rd0 : rd ρ (.fz d) = some d := (rfl)
@[simp] theorem x_rd1 {o : OB} : rd ρ (.fr o) = o.d := (rfl)
@[simp] theorem x_rd2 : rd ρ (.sl i) = match ρ[i]? with
    | some (some (.fz d)) => some d
    | some (some (.ow _ o)) => o.d
    | some (some (.lk o)) => o.d
    | _ => none := (rfl)
@[simp] theorem x_od {ds : List D} : (OB.lst ds).d = some (.lst ds) := (rfl)
@[simp] theorem x_frz0 : frz ρ (.fz d) = some (d, ρ) := (rfl)
@[simp] theorem x_frz1 {ds : List D} : frz ρ (.fr (.lst ds)) = some (.lst ds, ρ) := (rfl)
@[simp] theorem x_frz2 : frz ρ (.sl i) = match ρ[i]? with
    | some (some (.fz d)) => some (d, ρ)
    | some (some (.ow _ (.lst ds))) => some (.lst ds, ρ.set i (some (.fz (.lst ds))))
    | _ => none := (rfl)
@[simp] theorem x_prm0 : prm ρ (.fz d) = some (.fz d) := (rfl)
@[simp] theorem x_prm1 {ds : List D} : prm ρ (.fr (.lst ds)) = some (.fz (.lst ds)) := (rfl)
@[simp] theorem x_prm2 : prm ρ (.sl i) = match ρ[i]? with
    | some (some (.fz d)) => some (.fz d)
    | some (some (.ow _ _)) => some (.sl i)
    | some (some (.lk _)) => some (.sl i)
    | _ => none := (rfl)
@[simp] theorem x_put0 : putV ρ i (.fz d) = some (ρ.set i (some (.fz d))) := (rfl)
@[simp] theorem x_put1 {o : OB} : putV ρ i (.fr o) = some (ρ.set i (some (.ow false o))) := (rfl)
@[simp] theorem x_put2 : putV ρ i (.sl k) = match frz ρ (.sl k) with
    | some (d, ρ') => some (ρ'.set i (some (.fz d)))
    | none => none := (rfl)
@[simp] theorem x_ret0 : retV ρ (.fz d) = some (.fz d, ρ) := (rfl)
@[simp] theorem x_ret1 {o : OB} : retV ρ (.fr o) = some (.fr o, ρ) := (rfl)
@[simp] theorem x_ret2 : retV ρ (.sl i) = match ρ[i]? with
    | some (some (.fz d)) => some (.fz d, ρ)
    | some (some (.ow false o)) => some (.fr o, ρ)
    | _ => none := (rfl)
@[simp] theorem x_as0 : argsOf ρ [] = some [] := (rfl)
@[simp] theorem x_as1 {rs : List RV} : argsOf ρ (r :: rs) = match argSV ρ r, argsOf ρ rs with
    | some a, some as => some (a :: as)
    | _, _ => none := (rfl)
@[simp] theorem x_av0 : argSV ρ (.fz d) = some (.fz d) := (rfl)
@[simp] theorem x_av2 : argSV ρ (.sl i) = match ρ[i]? with
    | some (some (.ow _ o)) => some (.ow true o)
    | some (some (.lk o)) => some (.lk o)
    | some (some (.fz d)) => some (.fz d)
    | _ => none := (rfl)
@[simp] theorem x_so0 : slotsOf [] = [] := (rfl)
@[simp] theorem x_so1 {rs : List RV} : slotsOf (.fz d :: rs) = slotsOf rs := (rfl)
@[simp] theorem x_so2 {rs : List RV} : slotsOf (.sl i :: rs) = i :: slotsOf rs := (rfl)
@[simp] theorem x_bk0 {ρa : Env} : back ρ [] ρa = ρ := (rfl)
@[simp] theorem x_bk1 {ρa : Env} {rs : List RV} : back ρ (.fz d :: rs) ρa = back ρ rs ρa.tail := (rfl)
@[simp] theorem x_bk2 {s : Option SV} {ρa : Env} {rs : List RV} : back ρ (.sl i :: rs) (s :: ρa) = back (match ρ[i]? with
    | some (some (.ow b _)) => ρ.set i (some (outSV (some s) b))
    | _ => ρ) rs ρa := (rfl)
@[simp] theorem x_osv {b : Bool} {o : OB} : outSV (some (some (.ow true o))) b = .ow b o := (rfl)
@[simp] theorem x_onE_ok {α : Type} {a : α} {f : Env → Env} : (Out.ok a ρ).onE f = .ok a (f ρ) := (rfl)
@[simp] theorem x_onE_ex {α : Type} {c : Str} {xs : List (Str × D)} {f : Env → Env} : (Out.ex c xs ρ : Out α).onE f = .ex c xs (f ρ) := (rfl)
@[simp] theorem x_eCallD {m : FSem} {dds : List D} : eCallD m dds fs ρ = (eP fs ρ).bind fun rs ρ1 => match argsOf ρ1 (rs ++ dds.map .fz) with
  | some as => if (slotsOf rs).Nodup then (m as).onE (back ρ1 (rs ++ dds.map .fz)) else .no
  | none => .no := by
  unfold eCallD
  congr 1
  funext rs ρ1
  cases argsOf ρ1 (rs ++ dds.map .fz) with
  | none => rfl
  | some as =>
    by_cases h : (slotsOf rs).Nodup
    · simp only [if_pos h]; cases m as <;> rfl
    · simp only [if_neg h]
@[simp] theorem x_sI : sI k fa fb ρ = (eF fb ρ).sbind fun d ρ1 => match ρ1[k]? with
  | some (some (.ow _ (.lst _))) => (fa ρ1).sbind fun ri ρ2 => (match ri, ρ2[k]? with
    | .fz (.int i), some (some (.ow b (.lst xs))) => (match ixN xs.length i with
      | some j => .nx (ρ2.set k (some (.ow b (.lst (xs.set j d)))))
      | none => .no)
    | _, _ => .no)
  | _ => .no := (rfl)
@[simp] theorem x_eMut {gm : MSem} : eMut k gm fs ρ = match ρ[k]? with
  | some (some (.ow _ (.lst _))) => (eL fs ρ).bind fun ds ρ1 => (match ρ1[k]? with
    | some (some (.ow b (.lst xs))) => (match gm xs ds with
      | some (d, xs') => .ok (.fz d) (ρ1.set k (some (.ow b (.lst xs'))))
      | none => .no)
    | _ => .no)
  | _ => .no := (rfl)
@[simp] theorem x_app {xs : List D} : appM xs [d] = if xs.length < sizeLine then some (.non, xs ++ [d]) else none := (rfl)
end
/-! ### operators -/
@[simp] theorem x_add {i j : Int} : addD (.int i) (.int j) = some (.fz (.int (i + j))) := (rfl)
@[simp] theorem x_sub {i j : Int} : subD (.int i) (.int j) = some (.fz (.int (i - j))) := (rfl)
@[simp] theorem x_int {i : Int} : intD (.int i) = some (.fz (.int i)) := (rfl)
@[simp] theorem x_cmp {p : Int → Int → Bool} {i j : Int} : cmpD p (.int i) (.int j) = some (.fz (.bl (p i j))) := (rfl)
@[simp] theorem x_lenT {xs : List D} : lenD (.tup xs) = some (.fz (.int xs.length)) := (rfl)
@[simp] theorem x_lenL {xs : List D} : lenD (.lst xs) = some (.fz (.int xs.length)) := (rfl)
@[simp] theorem x_lenS {xs : List Int} : lenD (.scr xs) = some (.fz (.int xs.length)) := (rfl)
@[simp] theorem x_idxL {xs : List D} {i : Int} : idxD (.lst xs) (.int i) = (atI xs i).map .fz := (rfl)
@[simp] theorem x_idxT {xs : List D} {i : Int} : idxD (.tup xs) (.int i) = (atI xs i).map .fz := (rfl)
@[simp] theorem x_trB {b : Bool} : truthD (.bl b) = some b := (rfl)
@[simp] theorem x_is1 {d : D} : isD d .non = some (.fz (.bl d.isNon)) := (rfl)
@[simp] theorem x_is2 {d : D} : isntD d .non = some (.fz (.bl (!d.isNon))) := (rfl)
@[simp] theorem x_non0 : D.isNon .non = true := (rfl)
@[simp] theorem x_non1 {i : Int} : D.isNon (.int i) = false := (rfl)
@[simp] theorem x_non2 {i : Str} : D.isNon (.str i) = false := (rfl)
@[simp] theorem x_non3 {i : Bool} : D.isNon (.bl i) = false := (rfl)
theorem deqI {i j : Int} : deq (.int i) (.int j) = some (decide (i = j)) := by
  have : (i == j) = decide (i = j) := by by_cases h : i = j <;> simp [h]
  simp [deq, D.pd, SeqAt.shaped, PyData.eqv, PyData.canLay0, PyData.depth, this]
theorem deqS {i j : Str} (h1 : PyData.strOk i = true) (h2 : PyData.strOk j = true) : deq (.str i) (.str j) = some (decide (i = j)) := by
  have : (i == j) = decide (i = j) := by by_cases h : i = j <;> simp [h]
  simp [deq, D.pd, SeqAt.shaped, PyData.eqv, PyData.canLay0, PyData.depth, this, h1, h2]
@[simp] theorem x_eqI {i j : Int} : eqD (.int i) (.int j) = some (.fz (.bl (decide (i = j)))) := by
  simp [eqD, deqI]
@[simp] theorem x_neI {i j : Int} : neD (.int i) (.int j) = some (.fz (.bl (!decide (i = j)))) := by
  simp [neD, deqI]
@[simp] theorem x_eqS {i j : Str} : eqD (.str i) (.str j) = some (.fz (.bl (decide (i = j)))) := (rfl)
@[simp] theorem x_neS {i j : Str} : neD (.str i) (.str j) = some (.fz (.bl (!decide (i = j)))) := (rfl)
end DL
end
noncomputable section
/-! E21: the hand of the laws and what is taken from it. -/
namespace DL
open PySem PySem.Spec L2

def cg_take : SSem := (sQ (sIf (cAnd (cB (eOp eqD (eOp idxD (eN 0) (eC (.int 2))) (eC (.int 0)))) (cB (eOp ltD (eOp idxD (eN 0) (eC (.int 1))) (eU lenD (eOp idxD (eN 0) (eC (.int 0))))))) (sQ (sA 2 (eOp idxD (eOp idxD (eN 0) (eC (.int 0))) (eOp idxD (eN 0) (eC (.int 1)))))
  (sQ (sI 0 (eC (.int 1)) (eOp addD (eOp idxD (eN 0) (eC (.int 1))) (eC (.int 1))))
  (sQ (sIf (cB (eOp ltD (eN 2) (eOp powD (eC (.int 10)) (eC (.int 18))))) (sR (eOp modD (eU intD (eCallD cm_mixed [] [(eOp modD (eU intD (eN 2)) (eC (.int 2147483647))), (eOp idxD (eN 0) (eC (.int 1)))])) (eN 1))) sN)
  (sI 0 (eC (.int 2)) (eN 2))))) sN)
  (sQ (sIf (cB (eOp gtD (eOp idxD (eN 0) (eC (.int 2))) (eC (.int 0)))) (sQ (sA 3 (eOp idxD (eN 0) (eC (.int 2))))
  (sQ (sI 0 (eC (.int 2)) (eOp divD (eU intD (eN 3)) (eN 1)))
  (sR (eOp modD (eU intD (eN 3)) (eN 1))))) sN)
  (sQ (sI 0 (eC (.int 3)) (eOp modD (eU intD (eOp addD (eOp idxD (eN 0) (eC (.int 3))) (eC (.int 1)))) (eC (.int 2147483629))))
  (sR (eOp modD (eU intD (eCallD cm_mixed [] [(eOp idxD (eN 0) (eC (.int 3))), (eOp idxD (eN 0) (eC (.int 1)))])) (eN 1))))))
def cm_take : FSem := runB cg_take 4
structure Hok (h : List D) : Prop where
  ex : ∃ (cells : List Int) (p b t : Int), h = [.lst (cells.map .int), .int p, .int b, .int t] ∧ cells.length ≤ 63 ∧ (∀ c ∈ cells, 0 ≤ c) ∧ 0 ≤ p ∧ p ≤ cells.length ∧ 0 ≤ b ∧ 0 ≤ t ∧ t < 2147483629
theorem atI_map {xs : List Int} {p : Int} {c : Int} (h0 : 0 ≤ p) (h1 : p < xs.length) (h2 : xs[p.toNat]? = some c) : atI (xs.map D.int) p = some (.int c) := by
  have : ixN (xs.map D.int).length p = some p.toNat := by unfold ixN; rw [if_pos h0, if_pos (by simpa using h1)]
  simp only [atI, this, Option.bind]
  simp [h2]
@[simp] theorem at4_0 {a b c d : D} : atI [a, b, c, d] 0 = some a := rfl
@[simp] theorem at4_1 {a b c d : D} : atI [a, b, c, d] 1 = some b := rfl
@[simp] theorem at4_2 {a b c d : D} : atI [a, b, c, d] 2 = some c := rfl
@[simp] theorem at4_3 {a b c d : D} : atI [a, b, c, d] 3 = some d := rfl
@[simp] theorem ix4_1 : ixN 4 1 = some 1 := rfl
@[simp] theorem ix4_2 : ixN 4 2 = some 2 := rfl
@[simp] theorem ix4_3 : ixN 4 3 = some 3 := rfl
theorem pow18 : powD (.int 10) (.int 18) = some (.fz (.int 1000000000000000000)) := by simp [powD, gI]
theorem take_ok (h : List D) (m : Int) (H : Hok h) (m0 : 0 < m) (m1 : m < 1073741824) : ∃ r h' ρ, cm_take [.ow true (.lst h), .fz (.int m)] = .ok (.fz (.int r)) (some (.ow true (.lst h')) :: ρ) ∧ Hok h' ∧ 0 ≤ r ∧ r < m := by
  obtain ⟨cells, p, b, t, rfl, hl, hc, p0, p1, b0, t0, t1⟩ := H.ex
  have md : ∀ x : Int, modD (.int x) (.int m) = some (.fz (.int (x % m))) := fun x => mod_eval m0
  have dv : ∀ x : Int, divD (.int x) (.int m) = some (.fz (.int (x / m))) := fun x => div_eval m0 m1
  have mm : ∀ x : Int, modD (.int x) (.int 2147483647) = some (.fz (.int (x % 2147483647))) := fun x => mod_eval (by decide)
  have mt : ∀ x : Int, modD (.int x) (.int 2147483629) = some (.fz (.int (x % 2147483629))) := fun x => mod_eval (by decide)
  have rng : ∀ x : Int, 0 ≤ x % m ∧ x % m < m := fun x => ⟨Int.emod_nonneg _ (by omega), Int.emod_lt_of_pos _ m0⟩
  have big : ∀ c p' t' : Int, 0 ≤ c → 0 ≤ p' → p' ≤ cells.length → 0 ≤ t' → t' < 2147483629 → Hok [.lst (cells.map .int), .int p', .int c, .int t'] := fun c p' t' h1 h2 h3 h4 h5 => ⟨cells, p', c, t', rfl, hl, hc, h2, h3, h1, h4, h5⟩
  have dvn : ∀ x : Int, 0 ≤ x → 0 ≤ x / m := fun x h => Int.ediv_nonneg h (by omega)
  -- the last part: a number of its own
  have fin : ∀ p' : Int, 0 ≤ p' → p' ≤ cells.length → ∃ r ρ, cm_mixed [.fz (.int ((t + 1) % 2147483629)), .fz (.int p')] = .ok (.fz (.int r)) ρ := fun p' h1 h2 => mixed_ok _ _ (Int.emod_nonneg _ (by decide)) (by have := Int.emod_lt_of_pos (t + 1) (b := 2147483629) (by decide); omega) h1 (by omega)
  have tt : 0 ≤ (t + 1) % 2147483629 ∧ (t + 1) % 2147483629 < 2147483629 := ⟨Int.emod_nonneg _ (by decide), Int.emod_lt_of_pos _ (by decide)⟩
  by_cases hb : b = 0
  · subst hb
    by_cases hp : p < cells.length
    · have hx : p.toNat < cells.length := by omega
      have e := atI_map (c := cells[p.toNat]) p0 hp (List.getElem?_eq_getElem hx)
      have c0 : 0 ≤ cells[p.toNat] := hc _ (List.getElem_mem hx)
      generalize cells[p.toNat] = c at e c0
      by_cases hs : c < 1000000000000000000
      · obtain ⟨r, ρ, er⟩ := mixed_ok (c % 2147483647) (p + 1) (Int.emod_nonneg _ (by decide)) (by have := Int.emod_lt_of_pos c (b := 2147483647) (by decide); omega) (by omega) (by omega)
        refine ⟨r % m, [.lst (cells.map .int), .int (p + 1), .int 0, .int t], [some (.fz (.int m)), some (.fz (.int c)), none], ?_, big 0 (p + 1) t (by decide) (by omega) (by omega) t0 t1, rng r⟩
        simp [cm_take, runB, cg_take, envOf, hp, e, hs, er, md, mm, pow18]
      · by_cases hz : 0 < c
        · refine ⟨c % m, [.lst (cells.map .int), .int (p + 1), .int (c / m), .int t], [some (.fz (.int m)), some (.fz (.int c)), some (.fz (.int c))], ?_, big (c / m) (p + 1) t (dvn c c0) (by omega) (by omega) t0 t1, rng c⟩
          simp [cm_take, runB, cg_take, envOf, hp, e, hs, hz, md, dv, mm, pow18]
        · omega
    · obtain ⟨r, ρ, er⟩ := fin p p0 p1
      refine ⟨r % m, [.lst (cells.map .int), .int p, .int 0, .int ((t + 1) % 2147483629)], [some (.fz (.int m)), none, none], ?_, big 0 p _ (by decide) p0 p1 tt.1 tt.2, rng r⟩
      simp [cm_take, runB, cg_take, envOf, hp, er, md, mt, pow18]
  · have hz : 0 < b := by omega
    refine ⟨b % m, [.lst (cells.map .int), .int p, .int (b / m), .int t], [some (.fz (.int m)), none, some (.fz (.int b))], ?_, big (b / m) p t (dvn b b0) p0 p1 t0 t1, rng b⟩
    simp [cm_take, runB, cg_take, envOf, hb, hz, md, dv, pow18]
/-- a call of it -/
theorem take_call {i : Nat} {fm : ESem} {ρ : Env} {b : Bool} {h : List D} {m : Int} (hi : ρ[i]? = some (some (.ow b (.lst h)))) (hm : fm ρ = .ok (.fz (.int m)) ρ) (H : Hok h) (m0 : 0 < m) (m1 : m < 1073741824) :
    ∃ r h', eCallD cm_take [] [eN i, fm] ρ = .ok (.fz (.int r)) (ρ.set i (some (.ow b (.lst h')))) ∧ Hok h' ∧ 0 ≤ r ∧ r < m := by
  obtain ⟨r, h', ρ', e, H', r0, r1⟩ := take_ok h m H m0 m1
  refine ⟨r, h', ?_, H', r0, r1⟩
  simp [hi, hm, e]
end DL
end
noncomputable section
/-! E22: the hand is laid; words, mixed rows. -/
namespace DL
open PySem PySem.Spec L2

theorem szL : sizeLine = 16777216 := rfl
def cb_hand : SSem := (sQ (sA 1 (eOp modD (eU intD (eOp addD (eOp mulD (eN 1) (eC (.int 1019))) (eU intD (eN 3)))) (eC (.int 2147483629))))
  (sE (eMut 2 appM [(eIf (cB (eOp geD (eN 3) (eC (.int 0)))) (eU intD (eN 3)) (eNeg (eU intD (eN 3))))])))
def cg_hand : SSem := (sQ (sA 1 (eOp addD (eU lenD (eN 0)) (eC (.int 31))))
  (sQ (sA 2 (eLst []))
  (sQ (sFor (eN 0) (tgN 3) cb_hand)
  (sR (eLst [(eN 2), (eC (.int 0)), (eC (.int 0)), (eN 1)])))))
def cm_hand : FSem := runB cg_hand 4
theorem hand_step (s : SV) (cells : List Int) (t c : Int) (z : Option SV) (h : cells.length ≤ 63) (t0 : 0 ≤ t) (t1 : t < 2147483629) :
    cb_hand [some s, some (.fz (.int t)), some (.ow false (.lst (cells.map D.int))), some (.fz (.int c))] = .nx [some s, some (.fz (.int ((t * 1019 + c) % 2147483629))), some (.ow false (.lst ((cells ++ [if 0 ≤ c then c else -c]).map D.int))), some (.fz (.int c))] := by
  have m1 := mul_small (x := t) (y := 1019) (by omega) (by decide)
  have m2 := mod_eval (x := t * 1019 + c) (y := 2147483629) (by decide)
  have hs : cells.length < sizeLine := by have : (64 : Nat) ≤ sizeLine := by decide
                                          omega
  by_cases hc : 0 ≤ c
  · simp [cb_hand, m1, m2, hc, hs]
  · simp [cb_hand, m1, m2, hc, hs]
theorem hand_loop (s : SV) : ∀ (rest cells : List Int) (t : Int) (z : Option SV), cells.length + rest.length ≤ 63 → (∀ c ∈ cells, 0 ≤ c) → 0 ≤ t → t < 2147483629 →
    ∃ (cells' : List Int) (t' : Int) (z' : Option SV), forL (tgN 3) cb_hand (rest.map D.int) [some s, some (.fz (.int t)), some (.ow false (.lst (cells.map D.int))), z] = .nx [some s, some (.fz (.int t')), some (.ow false (.lst (cells'.map D.int))), z'] ∧ cells'.length ≤ 63 ∧ (∀ c ∈ cells', 0 ≤ c) ∧ 0 ≤ t' ∧ t' < 2147483629
  | [], cells, t, z, h, hc, t0, t1 => ⟨cells, t, z, rfl, by simpa using h, hc, t0, t1⟩
  | c :: r, cells, t, z, h, hc, t0, t1 => by
    have hl : cells.length + 1 + r.length ≤ 63 := by simp only [List.length_cons] at h; omega
    obtain ⟨cells', t', z', e, q⟩ := hand_loop s r (cells ++ [if 0 ≤ c then c else -c]) ((t * 1019 + c) % 2147483629) (some (.fz (.int c))) (by simpa using hl) (fun x hx => by
      rcases List.mem_append.mp hx with hx | hx
      · exact hc x hx
      · rw [List.mem_singleton.mp hx]; split <;> omega) (Int.emod_nonneg _ (by decide)) (Int.emod_lt_of_pos _ (by decide))
    refine ⟨cells', t', z', ?_, q⟩
    rw [← e, List.map_cons, forL]
    simp only [tgN, List.set]
    rw [hand_step s cells t c z (by omega) t0 t1]
theorem hand_ok (ns : List Int) (h : ns.length ≤ 63) : ∃ hh ρ, cm_hand [.fz (.scr ns)] = .ok (.fr (.lst hh)) ρ ∧ Hok hh := by
  obtain ⟨cells', t', z', e, h1, h2, h3, h4⟩ := hand_loop (.fz (.scr ns)) ns [] ((ns.length : Int) + 31) none (by simpa using h) (fun _ h => nomatch h) (by omega) (by omega)
  refine ⟨[.lst (cells'.map .int), .int 0, .int 0, .int t'], [some (.fz (.scr ns)), some (.fz (.int t')), some (.fz (.lst (cells'.map D.int))), z'], ?_, ⟨cells', 0, 0, t', rfl, h1, h2, by decide, by omega, by decide, h3, h4⟩⟩
  simp only [List.map_nil] at e
  simp [cm_hand, runB, cg_hand, envOf, sFor, itemsD, sForB, e, szL]
/-! ### words -/
def abc : Str := "abcdefghijklmnopqrstuvwxyz"
theorem abc_at : ∀ n : Fin 26, abc.cps.toList[n.val]? = some (97 + n.val) := by decide +kernel
theorem abc_len : abc.cps.toList.length = 26 := by decide +kernel
theorem abc_sz : abc.length ≤ sizeLine := by decide +kernel
theorem abc_ix {r : Int} (h0 : 0 ≤ r) (h1 : r < 26) : idxD (.str abc) (.int r) = some (.fz (.str ⟨#[97 + r.toNat]⟩)) := by
  have hn : r.toNat < 26 := by omega
  have e := abc_at ⟨r.toNat, hn⟩
  simp only [idxD, if_pos abc_sz, atI, ixN, abc_len, if_pos h0, if_pos (show r < ((26 : Nat) : Int) from h1), Option.bind, e, Option.map]
def low (w : Str) : Prop := ∀ c ∈ w.cps.toList, 97 ≤ c ∧ c ≤ 122
def one (c : Nat) : D := .str ⟨#[c]⟩
def ce_word : ESem := (eOp idxD (eC (.str "abcdefghijklmnopqrstuvwxyz")) (eCallD cm_take [] [(eN 0), (eC (.int 26))]))
def cg_word : SSem := (sR (eU (joinD "") (eLcR rngOf1 [(eOp addD (eC (.int 1)) (eCallD cm_take [] [(eN 0), (eN 1)]))] (.nm 2) cYes ce_word [2])))
def cm_word : FSem := runB cg_word 3
theorem word_loop (m : SV) : ∀ (ds : List D) (acc : List Nat) (h : List D), Hok h → acc.length + ds.length ≤ 1000 → ∃ (cs : List Nat) (h' : List D), compL (tgN 2) cYes ce_word [2] ds (acc.map one) [some (.ow true (.lst h)), some m, none] = .ok ((acc ++ cs).map one) [some (.ow true (.lst h')), some m, none] ∧ Hok h' ∧ cs.length = ds.length ∧ ∀ c ∈ cs, 97 ≤ c ∧ c ≤ 122
  | [], acc, h, H, hl => ⟨[], h, by simp [compL], H, rfl, fun _ h => nomatch h⟩
  | d :: ds, acc, h, H, hl => by
    obtain ⟨r, h1, e, H1, r0, r1⟩ := take_call (i := 0) (fm := eC (.int 26)) (ρ := [some (.ow true (.lst h)), some m, some (.fz d)]) (m := 26) rfl rfl H (by decide) (by decide)
    simp only [List.length_cons] at hl
    obtain ⟨cs, h', e2, H', q1, q2⟩ := word_loop m ds (acc ++ [97 + r.toNat]) h1 H1 (by simp; omega)
    refine ⟨(97 + r.toNat) :: cs, h', ?_, H', by simp [q1], ?_⟩
    · have hs : acc.length < sizeLine := by rw [szL]; omega
      have ix := abc_ix r0 r1
      have ew : ce_word [some (.ow true (.lst h)), some m, some (.fz d)] = .ok (.fz (one (97 + r.toNat))) [some (.ow true (.lst h1)), some m, some (.fz d)] := by
        unfold ce_word
        simp only [x_eOp, x_eC, x_bind_ok, e, List.set, x_rd0]
        rw [show (D.str ("abcdefghijklmnopqrstuvwxyz" : String)) = D.str abc from rfl, ix]
        rfl
      unfold compL
      simp only [tgN, List.set, cYes, x_nox, x_bind_ok, if_true, x_eF, ew, x_frz0, List.length_map, hs, wipeE]
      rw [show acc.map one ++ [one (97 + r.toNat)] = (acc ++ [97 + r.toNat]).map one by simp]
      rw [e2]
      simp
    · intro c hc
      rcases List.mem_cons.mp hc with rfl | hc
      · omega
      · exact q2 c hc
theorem strs_one : ∀ cs : List Nat, strs? (cs.map one) = some (cs.map fun c => (⟨#[c]⟩ : Str))
  | [] => rfl
  | c :: r => by simp only [List.map_cons, one, strs?]; rw [show (r.map one : List D) = r.map one from rfl, strs_one r]; rfl
theorem joinL_nil : ∀ l : List (List Nat), TL.joinL [] l = l.flatten
  | [] => rfl
  | [p] => by simp [TL.joinL]
  | p :: q :: r => by rw [TL.joinL, joinL_nil (q :: r)]; simp
theorem join_one (cs : List Nat) (h : cs.length ≤ 1000) : ∃ w : Str, joinD "" (.lst (cs.map one)) = some (.fz (.str w)) ∧ w.cps.toList = cs := by
  refine ⟨Txt.join "" (cs.map fun c => (⟨#[c]⟩ : Str)), ?_, ?_⟩
  · have e : ((cs.map fun c => (⟨#[c]⟩ : Str)).map (·.length)).sum = cs.length := by
      induction cs with
      | nil => rfl
      | cons c r ih => simp only [List.map_cons, List.sum_cons, List.length_cons]; rw [ih (by simp at h; omega)]; show 1 + r.length = _; omega
    have z : (Str.ofString "").length = 0 := by decide +kernel
    simp only [joinD, strs_one, e]
    rw [if_pos (by simp only [z]; omega)]
  · rw [TL.join_eq]
    have := TL.tl_join "" (cs.map fun c => (⟨#[c]⟩ : Str))
    rw [show TL.tl ("" : String) = [] from rfl, joinL_nil] at this
    rw [show (Str.join "" (cs.map fun c => (⟨#[c]⟩ : Str))).cps.toList = TL.tl (Str.join "" (cs.map fun c => (⟨#[c]⟩ : Str))) from rfl, this, List.map_map]
    clear this h
    induction cs with
    | nil => rfl
    | cons c r ih => simp only [List.map_cons, List.flatten_cons, ih]; rfl
theorem word_ok (h : List D) (m : Int) (H : Hok h) (m0 : 0 < m) (m1 : m < 1000) : ∃ (w : Str) (h' : List D), cm_word [.ow true (.lst h), .fz (.int m)] = .ok (.fz (.str w)) [some (.ow true (.lst h')), some (.fz (.int m)), none] ∧ Hok h' ∧ low w ∧ 1 ≤ w.length ∧ (w.length : Int) ≤ m := by
  obtain ⟨r, h1, e, H1, r0, r1⟩ := take_call (i := 0) (fm := eN 1) (ρ := [some (.ow true (.lst h)), some (.fz (.int m)), none]) (m := m) rfl rfl H m0 (by omega)
  have hlen : (rangeD 0 (1 + r)).length = (1 + r).toNat := by simp [rangeD]
  obtain ⟨cs, h', e2, H', q1, q2⟩ := word_loop (.fz (.int m)) (rangeD 0 (1 + r)) [] h1 H1 (by rw [hlen]; simp; omega)
  have cl : cs.length ≤ 1000 := by rw [q1, hlen]; omega
  obtain ⟨w, j1, j2⟩ := join_one cs cl
  have wl : w.length = cs.length := by rw [← j2]; simp [Str.length]
  refine ⟨w, h', ?_, H', by unfold low; rw [j2]; exact q2, by rw [wl, q1, hlen]; omega, by rw [wl, q1, hlen]; omega⟩
  have sm : smallR 0 (1 + r) = true := by unfold smallR; simp; omega
  simp only [List.map_nil, List.nil_append] at e2
  simp only [cm_word, runB, cg_word, envOf, List.map, List.length, List.replicate, x_sR, x_eU, eLcR, x_eL1, x_eL0, x_eF, x_eOp, x_eC, x_bind_ok, e, List.append, List.cons_append, List.nil_append, Nat.reduceSub, List.replicate, List.set, x_rd0, x_add, x_frz0, rngOf1, sm, if_true, compR, freeOf, List.all, tgF, wipeE, e2, rest]
  simp [j1]
end DL
end
noncomputable section
/-! E23: mixed rows, some of a row. -/
namespace DL
open PySem PySem.Spec L2

theorem erase_map {α β : Type} (f : α → β) : ∀ (xs : List α) (i : Nat), (xs.map f).eraseIdx i = (xs.eraseIdx i).map f
  | [], _ => rfl
  | x :: r, 0 => rfl
  | x :: r, i + 1 => by simp only [List.map_cons, List.eraseIdx_cons_succ, erase_map f r i]
theorem get_erase_perm {α : Type} : ∀ (xs : List α) (i : Nat) (h : i < xs.length), (xs[i] :: xs.eraseIdx i).Perm xs
  | x :: r, 0, _ => .refl _
  | x :: r, i + 1, h => by
    have := get_erase_perm r i (by simpa using h)
    simp only [List.getElem_cons_succ, List.eraseIdx_cons_succ]
    exact (List.Perm.swap _ _ _).trans (.cons _ this)
def cb_shuffled : SSem := (sE (eMut 3 appM [(eMut 2 popM [(eCallD cm_take [] [(eN 0), (eU lenD (eN 2))])])]))
def cg_shuffled : SSem := (sQ (sPar2 2 3 (eU listD (eN 1)) (eLst []))
  (sQ (sWh (cT (eN 2)) cb_shuffled)
  (sR (eN 3))))
def cm_shuffled : FSem := runB cg_shuffled 4
section
variable {α : Type} (f : α → D) (s : SV)
theorem shuf_loop : ∀ (n : Nat) (h : List D) (xs acc : List α), xs.length = n → acc.length + n ≤ 1000 → Hok h →
    ∃ (ys : List α) (h' : List D), sWh (cT (eN 2)) cb_shuffled [some (.ow true (.lst h)), some s, some (.ow false (.lst (xs.map f))), some (.ow false (.lst (acc.map f)))] = .nx [some (.ow true (.lst h')), some s, some (.ow false (.lst [])), some (.ow false (.lst (ys.map f)))] ∧ ys.Perm (acc ++ xs) ∧ Hok h'
  | 0, h, xs, acc, hn, hl, H => by
    have : xs = [] := List.eq_nil_of_length_eq_zero hn
    subst this
    refine ⟨acc, h, ?_, by simp, H⟩
    rw [sWh_eq]
    simp [truthD]
  | n + 1, h, xs, acc, hn, hl, H => by
    obtain ⟨r, h1, e, H1, r0, r1⟩ := take_call (i := 0) (fm := eU lenD (eN 2)) (ρ := [some (.ow true (.lst h)), some s, some (.ow false (.lst (xs.map f))), some (.ow false (.lst (acc.map f)))]) (m := (xs.length : Int)) rfl (by simp) H (by omega) (by omega)
    have hj : r.toNat < xs.length := by omega
    obtain ⟨ys, h', e2, p, H'⟩ := shuf_loop n h1 (xs.eraseIdx r.toNat) (acc ++ [xs[r.toNat]]) (by rw [List.length_eraseIdx_of_lt hj]; omega) (by simp; omega) H1
    refine ⟨ys, h', ?_, ?_, H'⟩
    · have ix : ixN xs.length r = some r.toNat := by unfold ixN; rw [if_pos r0, if_pos r1]
      have ne : (xs.map f).isEmpty = false := by cases xs with
        | nil => simp at hn
        | cons => rfl
      have g1 : (xs.map f)[r.toNat]? = some (f xs[r.toNat]) := by rw [List.getElem?_map, List.getElem?_eq_getElem hj]; rfl
      have hs : acc.length < sizeLine := by rw [szL]; omega
      have bd : -(2 ^ 63) ≤ r ∧ r < 2 ^ 63 := by omega
      have em : (xs.map f).eraseIdx r.toNat = (xs.eraseIdx r.toNat).map f := erase_map _ _ _
      have eb : cb_shuffled [some (.ow true (.lst h)), some s, some (.ow false (.lst (xs.map f))), some (.ow false (.lst (acc.map f)))] = .nx [some (.ow true (.lst h1)), some s, some (.ow false (.lst ((xs.eraseIdx r.toNat).map f))), some (.ow false (.lst ((acc ++ [xs[r.toNat]]).map f)))] := by
        simp only [cb_shuffled, x_sE, x_eMut, x_eL1, x_eL0, x_eF, List.getElem?_cons_succ, List.getElem?_cons_zero, e, x_bind_ok, x_frz0, List.set, popM, List.length_map, ix, g1, bd, and_self, if_true, x_app, hs, em, x_sbind_ok]
        simp
      rw [sWh_eq, ← e2]
      simp [truthD, ne, eb]
    · refine p.trans ?_
      rw [List.append_assoc]
      exact List.Perm.append_left acc (get_erase_perm xs _ hj)
theorem shuf_ok (h : List D) (d : D) (xs : List α) (H : Hok h) (hd : listD d = some (.fr (.lst (xs.map f)))) (hl : xs.length ≤ 1000) :
    ∃ (ys : List α) (h' : List D) (ρ : Env), cm_shuffled [.ow true (.lst h), .fz d] = .ok (.fr (.lst (ys.map f))) (some (.ow true (.lst h')) :: ρ) ∧ ys.Perm xs ∧ Hok h' := by
  obtain ⟨ys, h', e, p, H'⟩ := shuf_loop f (.fz d) xs.length h xs [] rfl (by simpa using hl) H
  refine ⟨ys, h', [some (.fz d), some (.ow false (.lst [])), some (.ow false (.lst (ys.map f)))], ?_, by simpa using p, H'⟩
  simp only [List.map_nil] at e
  simp [cm_shuffled, runB, cg_shuffled, envOf, sPar2, hd, e]
end
def cg_some : SSem := (sR (eU tupD (eU srtD (eSlc (eCallD cm_shuffled [] [(eN 0), (eN 1)]) none (some (eN 2))))))
def cm_some : FSem := runB cg_some 3
theorem ints_map : ∀ ns : List Int, ints? (ns.map D.int) = some ns
  | [] => rfl
  | n :: r => by simp [ints?, ints_map r]
theorem some_ok (h : List D) (d : D) (ns : List Int) (m : Nat) (H : Hok h) (hd : listD d = some (.fr (.lst (ns.map D.int)))) (hl : ns.length ≤ 1000) (hn : ns.Nodup) :
    ∃ (rs : List Int) (h' : List D) (ρ : Env), cm_some [.ow true (.lst h), .fz d, .fz (.int m)] = .ok (.fz (.tup (rs.map D.int))) (some (.ow true (.lst h')) :: ρ) ∧ rs.Pairwise (· < ·) ∧ (∀ r ∈ rs, r ∈ ns) ∧ rs.length = min m ns.length ∧ Hok h' := by
  obtain ⟨ys, h', ρ, e, p, H'⟩ := shuf_ok D.int h d ns H hd hl
  have hp := sortI_perm (ys.take m)
  have nd : (sortI (ys.take m)).Nodup := hp.nodup_iff.mpr ((List.take_sublist m ys).nodup (p.nodup_iff.mpr hn))
  refine ⟨sortI (ys.take m), h', [some (.fz d), some (.fz (.int m))], ?_, ?_, fun r hr => p.mem_iff.mp (List.mem_of_mem_take (hp.mem_iff.mp hr)), by rw [hp.length_eq, List.length_take, p.length_eq], H'⟩
  · have ec : eCallD cm_shuffled [] [eN 0, eN 1] [some (.ow true (.lst h)), some (.fz d), some (.fz (.int m))] = .ok (.fr (.lst (ys.map D.int))) [some (.ow true (.lst h')), some (.fz d), some (.fz (.int m))] := by simp [e]
    have cut : cutD (ys.map D.int) none (some (m : Int)) = (ys.take m).map D.int := by
      unfold cutD
      rw [HT.sIx_none, HT.sIx_nat]
      simp only [Nat.sub_zero, List.drop_zero, List.length_map]
      rw [← List.map_take]
      congr 1
      rw [List.take_eq_take_iff]
      omega
    simp only [cm_some, runB, cg_some, envOf, List.map, List.length, Nat.reduceSub, Nat.reduceAdd, List.replicate, List.append_nil, x_sR, x_eU, eSlc, ec, x_bind_ok, eO, x_eN, List.getElem?_cons_succ, List.getElem?_cons_zero, x_rd1, x_od, slcD, cut, srtD, ints_map, Option.map, tupD, x_sbind_ok, x_ret0]
  · exact ((sortI_sorted _).and nd).imp fun ⟨h1, h2⟩ => by omega
end DL
end
noncomputable section
/-! E24: plain data compared and shown. -/
namespace DL
open PySem PySem.Spec L2

theorem toNat_inj : ∀ {l m : List Char}, l.map Char.toNat = m.map Char.toNat → l = m
  | [], [], _ => rfl
  | [], _ :: _, h => by cases h
  | _ :: _, [], h => by cases h
  | a :: l, b :: m, h => by
    simp only [List.map_cons, List.cons.injEq] at h
    rw [toNat_inj h.2, Char.toNat_inj.mp h.1]
@[simp] theorem x_ofS {a b : String} : (Str.ofString a = Str.ofString b) = (a = b) := by
  refine propext ⟨fun h => ?_, fun h => h ▸ rfl⟩
  have := congrArg TL.tl h
  rw [TL.tl_ofString, TL.tl_ofString] at this
  exact String.ext (toNat_inj this)
@[simp] theorem x_ofSb {a b : String} : (Str.ofString a == Str.ofString b) = (a == b) := by
  rw [Bool.eq_iff_iff, beq_iff_eq, beq_iff_eq, x_ofS]
def FineP (k n : Nat) (p : PyData) : Prop := p.canLay0 = true ∧ p.showable = true ∧ p.depth ≤ k ∧ p.bulk ≤ n
def Fine (k n : Nat) (d : D) : Prop := ∃ p, d.pd = some p ∧ FineP k n p
theorem fine_non {k n : Nat} : Fine k n .non := ⟨_, rfl, rfl, rfl, Nat.zero_le _, Nat.zero_le _⟩
theorem fine_bl {k n : Nat} {b : Bool} : Fine k n (.bl b) := ⟨_, rfl, rfl, rfl, Nat.zero_le _, Nat.zero_le _⟩
theorem fine_int {k n : Nat} {i : Int} (h : i.natAbs < 2 ^ 1000) : Fine k n (.int i) := by
  refine ⟨_, rfl, rfl, ?_, Nat.zero_le _, Nat.zero_le _⟩
  have := log2_small h (by decide)
  simp only [PyData.showable, decide_eq_true_eq]; omega
theorem fine_str {k n : Nat} {w : Str} (h : PyData.strOk w = true) (hl : w.length ≤ n) : Fine k n (.str w) := ⟨_, rfl, h, rfl, Nat.zero_le _, hl⟩
theorem fine_all {k m : Nat} : ∀ xs : List D, (∀ x ∈ xs, Fine k m x) → ∃ ps, pdL xs = some ps ∧ PyData.canLayAll0 ps = true ∧ PyData.showableAll ps = true ∧ PyData.depthAll ps ≤ k ∧ PyData.bulkAll ps ≤ xs.length * (m + 1)
  | [], _ => ⟨[], rfl, rfl, rfl, Nat.zero_le _, Nat.zero_le _⟩
  | x :: xs, h => by
    obtain ⟨p, e, h1, h2, h3, h4⟩ := h x (List.mem_cons_self ..)
    obtain ⟨ps, es, g1, g2, g3, g4⟩ := fine_all xs fun y hy => h y (List.mem_cons_of_mem _ hy)
    refine ⟨p :: ps, by simp only [pdL, e, es], by simp [PyData.canLayAll0, h1, g1], by simp [PyData.showableAll, h2, g2], by simp only [PyData.depthAll]; omega, ?_⟩
    simp only [PyData.bulkAll, List.length_cons, Nat.add_mul]; omega
theorem fine_lst {k m l n : Nat} {xs : List D} (h : ∀ x ∈ xs, Fine k m x) (hl : xs.length ≤ l) (hn : l * (m + 1) ≤ n) : Fine (k + 1) n (.lst xs) := by
  obtain ⟨ps, e, h1, h2, h3, h4⟩ := fine_all xs h
  refine ⟨.list ps, by simp only [D.pd, e]; rfl, h1, h2, by simp only [PyData.depth]; omega, ?_⟩
  have : xs.length * (m + 1) ≤ l * (m + 1) := Nat.mul_le_mul_right _ hl
  simp only [PyData.bulk]; omega
theorem fine_tup {k m l n : Nat} {xs : List D} (h : ∀ x ∈ xs, Fine k m x) (hl : xs.length ≤ l) (hn : l * (m + 1) ≤ n) : Fine (k + 1) n (.tup xs) := by
  obtain ⟨ps, e, h1, h2, h3, h4⟩ := fine_all xs h
  refine ⟨.tuple ps, by simp only [D.pd, e]; rfl, h1, h2, by simp only [PyData.depth]; omega, ?_⟩
  have : xs.length * (m + 1) ≤ l * (m + 1) := Nat.mul_le_mul_right _ hl
  simp only [PyData.bulk]; omega
theorem Fine.mono {k n k' n' : Nat} {d : D} (h : Fine k n d) (hk : k ≤ k') (hn : n ≤ n') : Fine k' n' d := by
  obtain ⟨p, e, h1, h2, h3, h4⟩ := h
  exact ⟨p, e, h1, h2, by omega, by omega⟩
theorem fine_deq {k n k' n' : Nat} {x y : D} {p q : PyData} (hx : x.pd = some p) (hy : y.pd = some q) (h1 : FineP k n p) (h2 : FineP k' n' q) (hk : k ≤ 64) (hk' : k' ≤ 64) : deq x y = some (PyData.eqv p q) := by
  simp only [deq, hx, hy]
  have s1 : SeqAt.shaped p = true := by simp only [SeqAt.shaped, h1.1, Bool.true_and, decide_eq_true_eq]; have := h1.2.2.1; omega
  have s2 : SeqAt.shaped q = true := by simp only [SeqAt.shaped, h2.1, Bool.true_and, decide_eq_true_eq]; have := h2.2.2.1; omega
  rw [s1, s2]; rfl
mutual
theorem eqv_self : ∀ p : PyData, p.canLay0 = true → PyData.eqv p p = true
  | .none, _ => rfl
  | .bool b, _ => by simp [PyData.eqv]
  | .int i, _ => by simp [PyData.eqv]
  | .str x, _ => by simp [PyData.eqv]
  | .list xs, h => by simp only [PyData.eqv]; exact eqvs_self xs h
  | .tuple xs, h => by simp only [PyData.eqv]; exact eqvs_self xs h
  | .dict _, h => by cases h
theorem eqvs_self : ∀ ps : List PyData, PyData.canLayAll0 ps = true → PyData.eqvAll ps ps = true
  | [], _ => rfl
  | p :: ps, h => by
    simp only [PyData.canLayAll0, Bool.and_eq_true] at h
    simp only [PyData.eqvAll, eqv_self p h.1, eqvs_self ps h.2, Bool.and_self]
end
theorem deq_self {k n : Nat} {d : D} (h : Fine k n d) (hk : k ≤ 64) : deq d d = some true := by
  obtain ⟨p, e, hp⟩ := h
  rw [fine_deq e e hp hp hk hk, eqv_self p hp.1]
theorem eqvInts : ∀ xs ys : List Int, PyData.eqvAll (xs.map .int) (ys.map .int) = decide (xs = ys)
  | [], [] => rfl
  | [], _ :: _ => by simp [PyData.eqvAll]
  | _ :: _, [] => by simp [PyData.eqvAll]
  | x :: xs, y :: ys => by
    have : (x == y) = decide (x = y) := by by_cases h : x = y <;> simp [h]
    simp [PyData.eqvAll, PyData.eqv, eqvInts xs ys, this]
theorem pdInts : ∀ xs : List Int, pdL (xs.map D.int) = some (xs.map PyData.int)
  | [] => rfl
  | x :: xs => by simp only [List.map_cons, pdL, D.pd, pdInts xs]
def Sm (xs : List Int) : Prop := xs.length ≤ 1000 ∧ ∀ x ∈ xs, x.natAbs < 2 ^ 1000
theorem fine_ints {xs : List Int} (h : Sm xs) : Fine 1 1000 (.tup (xs.map D.int)) ∧ Fine 1 1000 (.lst (xs.map D.int)) := by
  have : ∀ x ∈ xs.map D.int, Fine 0 0 x := fun x hx => by
    obtain ⟨i, hi, rfl⟩ := List.mem_map.mp hx
    exact fine_int (h.2 i hi)
  exact ⟨fine_tup (k := 0) this (l := 1000) (by simpa using h.1) (by omega), fine_lst (k := 0) this (l := 1000) (by simpa using h.1) (by omega)⟩
theorem deq_tups {xs ys : List Int} (h1 : Sm xs) (h2 : Sm ys) : deq (.tup (xs.map D.int)) (.tup (ys.map D.int)) = some (decide (xs = ys)) := by
  obtain ⟨p, e, hp⟩ := (fine_ints h1).1
  obtain ⟨q, f, hq⟩ := (fine_ints h2).1
  rw [fine_deq e f hp hq (by decide) (by decide)]
  simp only [D.pd, pdInts, Option.map] at e f
  cases e; cases f
  simp only [PyData.eqv, eqvInts]
/-! ### repr -/
mutual
theorem short_of : ∀ p : PyData, p.canLay0 = true → p.showable = true → p.leavesShort 1921 = true
  | .none, _, _ => rfl
  | .bool _, _, _ => rfl
  | .int i, _, h => by
    simp only [PyData.showable, decide_eq_true_eq] at h
    simp only [PyData.leavesShort, decide_eq_true_eq]
    exact PyProof.Rows.int_text_len_1921 h
  | .str x, h, _ => by
    simp only [PyData.canLay0, PyData.strOk, Array.all_eq_true'] at h
    simp only [PyData.leavesShort, List.all_eq_true, decide_eq_true_eq]
    intro c hc
    have := of_decide_eq_true (h c (Array.mem_toList_iff.mp hc))
    omega
  | .list xs, h, k => shorts_of xs h k
  | .tuple xs, h, k => shorts_of xs h k
  | .dict _, h, _ => by cases h
theorem shorts_of : ∀ ps : List PyData, PyData.canLayAll0 ps = true → PyData.showableAll ps = true → PyData.leavesShortAll 1921 ps = true
  | [], _, _ => rfl
  | p :: ps, h, k => by
    simp only [PyData.canLayAll0, Bool.and_eq_true] at h
    simp only [PyData.showableAll, Bool.and_eq_true] at k
    simp only [PyData.leavesShortAll, short_of p h.1 k.1, shorts_of ps h.2 k.2, Bool.and_self]
end
theorem okShow_fine {k n : Nat} {p : PyData} (h : FineP k n p) (hk : k ≤ 60) (hn : n ≤ 8000) : okShow p = true := by
  obtain ⟨h1, h2, h3, h4⟩ := h
  have e1 := PyData.hasDict_of_canLay p h1
  have sh : p.shown.length ≤ sizeLine := by
    have := PyData.shown_le_bulk 1921 (by decide) p (short_of p h1 h2)
    rw [szL]; omega
  simp only [okShow, h2, e1, Bool.not_false, Bool.true_and, Bool.and_eq_true, decide_eq_true_eq]
  exact ⟨by omega, sh⟩
theorem repr_lst {k n : Nat} {xs : List D} (h : Fine k n (.lst xs)) (hk : k ≤ 60) (hn : n ≤ 8000) : ∃ s, reprD (.lst xs) = some (.fz (.str s)) := by
  obtain ⟨p, e, hp⟩ := h
  have ok := okShow_fine hp hk hn
  have sq : isSeqP p = true := by
    simp only [D.pd] at e
    cases q : pdL xs with
    | none => rw [q] at e; cases e
    | some ps => rw [q] at e; cases e; rfl
  exact ⟨p.shown, by simp only [reprD, e, sq, ok, Bool.and_self, if_true]⟩
end DL
end
noncomputable section
set_option maxHeartbeats 4000000
namespace K03
open PySem PySem.Spec L2 DL

def goodI (lo hi : Int) : D → Bool
  | .int i => decide (lo ≤ i) && decide (i ≤ hi)
  | _ => false
def isInt : D → Bool
  | .int _ => true
  | _ => false
def pl : D → Bool
  | .ins _ _ => false
  | .scr _ => false
  | _ => true
theorem whole_ev (d : D) (lo hi : Int) (h : pl d = true) : m_is_whole [.fz d, .fz (.int lo), .fz (.int hi)] = .ok (.fz (.bl (goodI lo hi d))) [some (.fz d), some (.fz (.int lo)), some (.fz (.int hi))] := by
  cases d with
  | ins => cases h
  | scr => cases h
  | int i => by_cases h1 : lo ≤ i <;> by_cases h2 : i ≤ hi <;> simp [m_is_whole, runB, g_is_whole, envOf, isiD, tyD, List.lookup, goodI, h1, h2, isD, D.isNon]
  | _ => simp [m_is_whole, runB, g_is_whole, envOf, isiD, tyD, List.lookup, goodI]
theorem whole_ev0 (d : D) (h : pl d = true) : m_is_whole [.fz d, .fz .non, .fz .non] = .ok (.fz (.bl (isInt d))) [some (.fz d), some (.fz .non), some (.fz .non)] := by
  cases d with
  | ins => cases h
  | scr => cases h
  | int i => simp [m_is_whole, runB, g_is_whole, envOf, isiD, tyD, List.lookup, isInt, isD, D.isNon]
  | _ => simp [m_is_whole, runB, g_is_whole, envOf, isiD, tyD, List.lookup, isInt]
/-! ### the nouns -/
def goodN : Int → List D → Bool
  | _, [] => true
  | last, d :: r => match d with
    | .int i => (decide (last + 1 ≤ i) && decide (i ≤ 5)) && goodN i r
    | _ => false
def cb_nouns : SSem := (sQ (sIf (cNot (cT (eCallD m_is_whole [] [(eN 2), (eOp addD (eN 1) (eC (.int 1))), (eOp subD (eC (.int (6))) (eC (.int 1)))]))) (sRaise "BadFrame" 1 [("what", 0)] [(eC (.str "nouns"))]) sN)
  (sA 1 (eN 2)))
theorem nouns_step (s : SV) (last : Int) (d : D) (h : pl d = true) : cb_nouns [some s, some (.fz (.int last)), some (.fz d)] = if goodI (last + 1) 5 d = true then .nx [some s, some (.fz d), some (.fz d)] else .ex "BadFrame" [("what", .str "nouns")] [some s, some (.fz (.int last)), some (.fz d)] := by
  cases hg : goodI (last + 1) 5 d
  · simp [cb_nouns, whole_ev d (last + 1) 5 h, hg, sRaise, exFs]
  · simp [cb_nouns, whole_ev d (last + 1) 5 h, hg]
theorem nouns_good (s : SV) : ∀ (ds : List D) (last : Int) (z : Option SV), goodN last ds = true → ∃ l z', forL (tgN 2) cb_nouns ds [some s, some (.fz (.int last)), z] = .nx [some s, l, z']
  | [], last, z, _ => ⟨_, _, rfl⟩
  | d :: r, last, z, h => by
    cases d with
    | int i =>
      simp only [goodN, Bool.and_eq_true] at h
      obtain ⟨l, z', e⟩ := nouns_good s r i (some (.fz (.int i))) h.2
      refine ⟨l, z', ?_⟩
      rw [forL]
      simp only [tgN, List.set]
      rw [nouns_step s last (.int i) rfl, if_pos (by simpa [goodI] using h.1)]
      exact e
    | _ => cases h
theorem nouns_bad (s : SV) : ∀ (ds : List D) (last : Int) (z : Option SV), (∀ d ∈ ds, pl d = true) → goodN last ds = false → ∃ ρ, forL (tgN 2) cb_nouns ds [some s, some (.fz (.int last)), z] = .ex "BadFrame" [("what", .str "nouns")] ρ
  | [], last, z, _, h => by cases h
  | d :: r, last, z, hp, h => by
    have hd := hp d (List.mem_cons_self ..)
    rw [forL]
    simp only [tgN, List.set]
    rw [nouns_step s last d hd]
    cases hg : goodI (last + 1) 5 d with
    | false => exact ⟨_, rfl⟩
    | true =>
      cases d with
      | int i =>
        simp only [goodI] at hg
        simp only [goodN, hg, Bool.true_and] at h
        obtain ⟨ρ, e⟩ := nouns_bad s r i (some (.fz (.int i))) (fun x hx => hp x (List.mem_cons_of_mem _ hx)) h
        exact ⟨ρ, e⟩
      | _ => cases hg
def itemsOf : D → List D
  | .lst ds => ds
  | .tup ds => ds
  | _ => []
def isSeq : D → Bool
  | .lst _ => true
  | .tup _ => true
  | _ => false
def okNs (d : D) : Bool := isSeq d && ((decide (1 ≤ (itemsOf d).length) && decide ((itemsOf d).length ≤ 5)) && goodN (-1) (itemsOf d))
theorem check_good (d : D) (h : okNs d = true) : ∃ ρ, m_check_nouns [.fz d] = .ok (.fz (.tup (itemsOf d))) ρ := by
  have key : ∀ ds : List D, (d = .lst ds ∨ d = .tup ds) → ∃ ρ, m_check_nouns [.fz d] = .ok (.fz (.tup (itemsOf d))) ρ := fun ds hd => by
    have hi : itemsOf d = ds := by rcases hd with rfl | rfl <;> rfl
    simp only [okNs, hi, Bool.and_eq_true, decide_eq_true_eq] at h
    obtain ⟨-, ⟨h1, h2⟩, h3⟩ := h
    obtain ⟨l, z', e⟩ := nouns_good (.fz d) ds (-1) none h3
    refine ⟨[some (.fz d), l, z'], ?_⟩
    have c1 : (1 : Int) ≤ ds.length := by omega
    have c2 : (ds.length : Int) ≤ 5 := by omega
    unfold cb_nouns at e
    rcases hd with rfl | rfl
    · simp [m_check_nouns, runB, g_check_nouns, envOf, isiD, tyD, List.lookup, eChain, c1, c2, sFor, itemsD, sForB, e, tupD, itemsOf]
    · simp [m_check_nouns, runB, g_check_nouns, envOf, isiD, tyD, List.lookup, eChain, c1, c2, sFor, itemsD, sForB, e, tupD, itemsOf]
  cases d with
  | lst ds => exact key ds (.inl rfl)
  | tup ds => exact key ds (.inr rfl)
  | _ => simp [okNs, isSeq] at h
theorem check_bad (d : D) (hp : pl d = true) (hq : ∀ x ∈ itemsOf d, pl x = true) (h : okNs d = false) : ∃ ρ, m_check_nouns [.fz d] = .ex "BadFrame" [("what", .str "nouns")] ρ := by
  have key : ∀ ds : List D, (d = .lst ds ∨ d = .tup ds) → ∃ ρ, m_check_nouns [.fz d] = .ex "BadFrame" [("what", .str "nouns")] ρ := fun ds hd => by
    have hi : itemsOf d = ds := by rcases hd with rfl | rfl <;> rfl
    have hs : isSeq d = true := by rcases hd with rfl | rfl <;> rfl
    rw [hi] at hq
    simp only [okNs, hi, hs, Bool.true_and] at h
    by_cases c1 : (1 : Int) ≤ ds.length
    · by_cases c2 : (ds.length : Int) ≤ 5
      · have h3 : goodN (-1) ds = false := by
          rw [decide_eq_true (show 1 ≤ ds.length by omega), decide_eq_true (show ds.length ≤ 5 by omega)] at h
          simpa using h
        obtain ⟨ρ, e⟩ := nouns_bad (.fz d) ds (-1) none hq h3
        refine ⟨ρ, ?_⟩
        unfold cb_nouns at e
        rcases hd with rfl | rfl
        · simp [m_check_nouns, runB, g_check_nouns, envOf, isiD, tyD, List.lookup, eChain, c1, c2, sFor, itemsD, sForB, e, tupD, itemsOf]
        · simp [m_check_nouns, runB, g_check_nouns, envOf, isiD, tyD, List.lookup, eChain, c1, c2, sFor, itemsD, sForB, e, tupD, itemsOf]
      · rcases hd with rfl | rfl
        · exact ⟨[some (.fz (.lst ds)), none, none], by simp [m_check_nouns, runB, g_check_nouns, envOf, isiD, tyD, List.lookup, eChain, c1, c2, sRaise, exFs]⟩
        · exact ⟨[some (.fz (.tup ds)), none, none], by simp [m_check_nouns, runB, g_check_nouns, envOf, isiD, tyD, List.lookup, eChain, c1, c2, sRaise, exFs]⟩
    · rcases hd with rfl | rfl
      · exact ⟨[some (.fz (.lst ds)), none, none], by simp [m_check_nouns, runB, g_check_nouns, envOf, isiD, tyD, List.lookup, eChain, c1, sRaise, exFs]⟩
      · exact ⟨[some (.fz (.tup ds)), none, none], by simp [m_check_nouns, runB, g_check_nouns, envOf, isiD, tyD, List.lookup, eChain, c1, sRaise, exFs]⟩
  cases d with
  | lst ds => exact key ds (.inl rfl)
  | tup ds => exact key ds (.inr rfl)
  | ins => cases hp
  | scr => cases hp
  | int i => exact ⟨[some (.fz (.int i)), none, none], by simp [m_check_nouns, runB, g_check_nouns, envOf, isiD, tyD, List.lookup, eChain, sRaise, exFs]⟩
  | str i => exact ⟨[some (.fz (.str i)), none, none], by simp [m_check_nouns, runB, g_check_nouns, envOf, isiD, tyD, List.lookup, eChain, sRaise, exFs]⟩
  | bl i => exact ⟨[some (.fz (.bl i)), none, none], by simp [m_check_nouns, runB, g_check_nouns, envOf, isiD, tyD, List.lookup, eChain, sRaise, exFs]⟩
  | non => exact ⟨[some (.fz .non), none, none], by simp [m_check_nouns, runB, g_check_nouns, envOf, isiD, tyD, List.lookup, eChain, sRaise, exFs]⟩
end K03
end
noncomputable section
set_option maxHeartbeats 4000000
namespace K03
open PySem PySem.Spec L2 DL

/-! ### names -/
def inAbc (c : Nat) : Bool := decide (c ∈ abc.cps.toList)
theorem abc_low : ∀ c : Nat, 97 ≤ c → c ≤ 122 → inAbc c = true := by
  intro c h1 h2
  have : ∀ n : Fin 26, inAbc (97 + n.val) = true := by decide +kernel
  have := this ⟨c - 97, by omega⟩
  rwa [show 97 + (c - 97) = c by omega] at this
def cb_let : SSem := (sIf (cB (eOp ninD (eN 1) (eC (.str "abcdefghijklmnopqrstuvwxyz")))) (sR (eC (.bl false))) sN)
theorem let_step (s : SV) (c : Nat) : cb_let [some s, some (.fz (.str ⟨#[c]⟩))] = if inAbc c = true then .nx [some s, some (.fz (.str ⟨#[c]⟩))] else .rt (.fz (.bl false)) [some s, some (.fz (.str ⟨#[c]⟩))] := by
  have e : ninD (.str ⟨#[c]⟩) (.str ("abcdefghijklmnopqrstuvwxyz" : String)) = some (.fz (.bl (!inAbc c))) := rfl
  cases h : inAbc c <;> simp [cb_let, e, h]
theorem let_loop (s : SV) : ∀ (cs : List Nat) (z : Option SV), ∃ ρ, forL (tgN 1) cb_let (cs.map fun c => .str ⟨#[c]⟩) [some s, z] = if cs.all inAbc = true then .nx ρ else .rt (.fz (.bl false)) ρ
  | [], z => ⟨_, rfl⟩
  | c :: r, z => by
    obtain ⟨ρ, e⟩ := let_loop s r (some (.fz (.str ⟨#[c]⟩)))
    rw [List.map_cons, forL]
    simp only [tgN, List.set]
    rw [let_step]
    cases h : inAbc c with
    | false => exact ⟨[some s, some (.fz (.str ⟨#[c]⟩))], by simp [h]⟩
    | true => exact ⟨ρ, by simpa [h] using e⟩
theorem letters_ev (w : Str) : ∃ ρ, m_has_letters [.fz (.str w)] = .ok (.fz (.bl (w.cps.toList.all inAbc))) ρ := by
  obtain ⟨ρ, e⟩ := let_loop (.fz (.str w)) w.cps.toList none
  unfold cb_let at e
  refine ⟨ρ, ?_⟩
  cases h : w.cps.toList.all inAbc with
  | false =>
    rw [h] at e
    simp only [Bool.false_eq_true, if_false] at e
    simp [m_has_letters, runB, g_has_letters, envOf, sFor, itemsD, sForB, e]
  | true =>
    rw [h] at e
    simp only [if_true] at e
    simp [m_has_letters, runB, g_has_letters, envOf, sFor, itemsD, sForB, e]
def okName : D → Bool
  | .str w => (decide (1 ≤ w.length) && decide (w.length ≤ 8)) && w.cps.toList.all inAbc
  | _ => false
def smName : D → Prop
  | .str w => w.length ≤ 100
  | _ => True
theorem name_ev (d : D) (hp : pl d = true) (hs : smName d) : m_is_name [.fz d, .fz (.int 8)] = .ok (.fz (.bl (okName d))) [some (.fz d), some (.fz (.int 8))] := by
  cases d with
  | ins => cases hp
  | scr => cases hp
  | str w =>
    obtain ⟨ρ, e⟩ := letters_ev w
    have hl : lenD (.str w) = some (.fz (.int w.length)) := by
      simp only [smName] at hs
      simp only [lenD]; rw [if_pos (by rw [szL]; omega)]
    by_cases c1 : (1 : Int) ≤ w.length
    · by_cases c2 : (w.length : Int) ≤ 8
      · have n1 : 1 ≤ w.length := by omega
        have n2 : w.length ≤ 8 := by omega
        simp [m_is_name, runB, g_is_name, envOf, isiD, tyD, List.lookup, eChain, hl, e, okName, c1, c2, n1, n2]
      · have n2 : ¬ w.length ≤ 8 := by omega
        simp [m_is_name, runB, g_is_name, envOf, isiD, tyD, List.lookup, eChain, hl, e, okName, c1, c2, n2]
    · have n1 : ¬ 1 ≤ w.length := by omega
      simp [m_is_name, runB, g_is_name, envOf, isiD, tyD, List.lookup, eChain, hl, e, okName, c1, n1]
  | _ => simp [m_is_name, runB, g_is_name, envOf, isiD, tyD, List.lookup, okName]
theorem okName_low {w : Str} (h : low w) (h1 : 1 ≤ w.length) (h2 : w.length ≤ 8) : okName (.str w) = true := by
  have : w.cps.toList.all inAbc = true := List.all_eq_true.mpr fun c hc => abc_low c (h c hc).1 (h c hc).2
  simp [okName, h1, h2, this]
/-! ### frames are made -/
def fr (n : D) (ns : List D) (c a : D) : List (Str × D) := [("name", n), ("nouns", .tup ns), ("clause", c), ("agreed", a)]
theorem pdI (i : Int) : (D.int i).pd = some (.int i) := rfl
theorem eqv_any (i : Int) : ∀ xs : List Int, (xs.map PyData.int).any (fun z => PyData.eqv z (.int i)) = decide (i ∈ xs)
  | [] => by simp
  | x :: xs => by
    have : (x == i) = decide (i = x) := by by_cases h : i = x <;> simp [h]; exact fun e => h e.symm
    simp [PyData.eqv, eqv_any i xs, this]
theorem din_ints (i : Int) {xs : List Int} (h : Sm xs) : din (.int i) (.tup (xs.map D.int)) = some (decide (i ∈ xs)) := by
  obtain ⟨q, f, hq⟩ := (fine_ints h).1
  simp only [D.pd, pdInts, Option.map] at f
  cases f
  have s1 : SeqAt.shaped (.int i) = true := by simp [SeqAt.shaped, PyData.canLay0, PyData.depth]
  have s2 : SeqAt.shaped (.tuple (xs.map .int)) = true := by simp only [SeqAt.shaped, hq.1, Bool.true_and, decide_eq_true_eq]; have := hq.2.2.1; omega
  simp only [din, pdI, pdInts, s1, s2, Bool.and_self, if_true, eqv_any]
theorem goodN_ints : ∀ (ds : List D) (last : Int), goodN last ds = true → ∃ xs : List Int, ds = xs.map D.int ∧ ∀ x ∈ xs, last < x ∧ x ≤ 5
  | [], _, _ => ⟨[], rfl, fun _ h => nomatch h⟩
  | d :: r, last, h => by
    cases d with
    | int i =>
      simp only [goodN, Bool.and_eq_true, decide_eq_true_eq] at h
      obtain ⟨xs, rfl, hx⟩ := goodN_ints r i h.2
      refine ⟨i :: xs, rfl, fun x hx' => ?_⟩
      rcases List.mem_cons.mp hx' with rfl | hm
      · omega
      · have := hx x hm; omega
    | _ => cases h
theorem okNs_ints {d : D} (h : okNs d = true) : ∃ xs : List Int, itemsOf d = xs.map D.int ∧ Sm xs ∧ ∀ x ∈ xs, 0 ≤ x ∧ x ≤ 5 := by
  simp only [okNs, Bool.and_eq_true, decide_eq_true_eq] at h
  obtain ⟨xs, e, hx⟩ := goodN_ints _ _ h.2.2
  refine ⟨xs, e, ⟨?_, fun x hm => ?_⟩, fun x hm => by have := hx x hm; omega⟩
  · have := h.2.1.2; rw [e, List.length_map] at this; omega
  · have := hx x hm
    have : x.natAbs < 2 ^ 3 := by omega
    exact Nat.lt_of_lt_of_le this (Nat.pow_le_pow_right (by decide) (by decide))
/-- right and wrong clauses, agreements -/
def okC (xs : List Int) (c : D) : Prop := c = .non ∨ ∃ i, c = .int i ∧ 0 ≤ i ∧ i ≤ 5 ∧ i ∉ xs
def okA (xs : List Int) (a : D) : Prop := a = .non ∨ ∃ i, a = .int i ∧ i ∈ xs
def badC (xs : List Int) (c : D) : Prop := pl c = true ∧ c ≠ .non ∧ ∀ i, c = .int i → ¬ (0 ≤ i ∧ i ≤ 5) ∨ i ∈ xs
def badA (xs : List Int) (a : D) : Prop := pl a = true ∧ a ≠ .non ∧ ∀ i, a = .int i → i ∉ xs
theorem notNon {c : D} (h : c ≠ .non) : c.isNon = false := by cases c <;> first | rfl | exact absurd rfl h
section
variable {n ns c a : D} {xs : List Int}
theorem init_name (pn : pl n = true) (sn : smName n) (h : okName n = false) : ∃ ρ, m_Frameq_initq [.ow true (.ob "Frame" []), .fz n, .fz ns, .fz c, .fz a] = .ex "BadFrame" [("what", .str "name")] ρ := by
  have e := name_ev n pn sn
  refine ⟨[some (.ow true (.ob "Frame" [])), some (.fz n), some (.fz ns), some (.fz c), some (.fz a)], ?_⟩
  simp [m_Frameq_initq, runB, g_Frameq_initq, envOf, e, h, sRaise, exFs]
end
end K03
end
noncomputable section
set_option maxHeartbeats 4000000
namespace K03
open PySem PySem.Spec L2 DL

section
variable {n ns c a : D} {xs : List Int}
theorem init_nouns (pn : pl n = true) (sn : smName n) (h : okName n = true) (hp : pl ns = true) (hq : ∀ x ∈ itemsOf ns, pl x = true) (g : okNs ns = false) : ∃ ρ, m_Frameq_initq [.ow true (.ob "Frame" []), .fz n, .fz ns, .fz c, .fz a] = .ex "BadFrame" [("what", .str "nouns")] ρ := by
  have e := name_ev n pn sn
  obtain ⟨ρ, e2⟩ := check_bad ns hp hq g
  refine ⟨[some (.ow true (.ob "Frame" [("name", n)])), some (.fz n), some (.fz ns), some (.fz c), some (.fz a)], ?_⟩
  simp [m_Frameq_initq, runB, g_Frameq_initq, envOf, e, h, sFldS, putD, e2]
theorem init_clause (pn : pl n = true) (sn : smName n) (h : okName n = true) (g : okNs ns = true) (hx : itemsOf ns = xs.map D.int) (hm : Sm xs) (hc : badC xs c) : ∃ ρ, m_Frameq_initq [.ow true (.ob "Frame" []), .fz n, .fz ns, .fz c, .fz a] = .ex "BadFrame" [("what", .str "clause")] ρ := by
  have e := name_ev n pn sn
  obtain ⟨ρ, e2⟩ := check_good ns g
  rw [hx] at e2
  obtain ⟨pc, nc, hc⟩ := hc
  have z := notNon nc
  have e3 := whole_ev c 0 5 pc
  refine ⟨[some (.ow true (.ob "Frame" [("name", n), ("nouns", .tup (xs.map D.int))])), some (.fz n), some (.fz ns), some (.fz c), some (.fz a)], ?_⟩
  cases q : goodI 0 5 c with
  | false => simp [m_Frameq_initq, runB, g_Frameq_initq, envOf, e, h, sFldS, putD, e2, z, e3, q, sRaise, exFs]
  | true =>
    cases c with
    | int i =>
      simp only [goodI, Bool.and_eq_true, decide_eq_true_eq] at q
      have hi : i ∈ xs := by
        rcases hc i rfl with hc | hc
        · exact absurd q hc
        · exact hc
      have e4 := din_ints i hm
      rw [decide_eq_true hi] at e4
      simp [m_Frameq_initq, runB, g_Frameq_initq, envOf, e, h, sFldS, putD, e2, z, e3, goodI, q, sRaise, exFs, inD, e4, eFld, rdF, List.lookup]
    | _ => cases q
theorem init_agreed (pn : pl n = true) (sn : smName n) (h : okName n = true) (g : okNs ns = true) (hx : itemsOf ns = xs.map D.int) (hm : Sm xs) (hc : okC xs c) (ha : badA xs a) : ∃ ρ, m_Frameq_initq [.ow true (.ob "Frame" []), .fz n, .fz ns, .fz c, .fz a] = .ex "BadFrame" [("what", .str "agreed")] ρ := by
  have e := name_ev n pn sn
  obtain ⟨ρ, e2⟩ := check_good ns g
  rw [hx] at e2
  obtain ⟨pa, na, ha⟩ := ha
  have z := notNon na
  have e5 := whole_ev0 a pa
  refine ⟨[some (.ow true (.ob "Frame" [("name", n), ("nouns", .tup (xs.map D.int)), ("clause", c)])), some (.fz n), some (.fz ns), some (.fz c), some (.fz a)], ?_⟩
  have fin : ∀ i, a = .int i → ninD (.int i) (.tup (xs.map D.int)) = some (.fz (.bl true)) := fun i hi => by
    have := din_ints i hm
    rw [decide_eq_false (ha i hi)] at this
    simp [ninD, this]
  rcases hc with rfl | ⟨i, rfl, i0, i5, hi⟩
  · cases a with
    | int j => simp [m_Frameq_initq, runB, g_Frameq_initq, envOf, e, h, sFldS, putD, e2, z, e5, isInt, sRaise, exFs, fin j rfl, eFld, rdF, List.lookup]
    | ins => cases pa
    | scr => cases pa
    | non => cases z
    | _ => simp [m_Frameq_initq, runB, g_Frameq_initq, envOf, e, h, sFldS, putD, e2, z, e5, isInt, sRaise, exFs]
  · have e3 := whole_ev (.int i) 0 5 rfl
    have e4 := din_ints i hm
    rw [decide_eq_false hi] at e4
    cases a with
    | int j => simp [m_Frameq_initq, runB, g_Frameq_initq, envOf, e, h, sFldS, putD, e2, z, e3, goodI, i0, i5, inD, e4, e5, isInt, sRaise, exFs, fin j rfl, eFld, rdF, List.lookup]
    | ins => cases pa
    | scr => cases pa
    | non => cases z
    | _ => simp [m_Frameq_initq, runB, g_Frameq_initq, envOf, e, h, sFldS, putD, e2, z, e3, goodI, i0, i5, inD, e4, e5, isInt, sRaise, exFs, eFld, rdF, List.lookup]
theorem init_ok (pn : pl n = true) (sn : smName n) (h : okName n = true) (g : okNs ns = true) (hx : itemsOf ns = xs.map D.int) (hm : Sm xs) (hc : okC xs c) (ha : okA xs a) : m_Frameq_initq [.ow true (.ob "Frame" []), .fz n, .fz ns, .fz c, .fz a] = .ok (.fz .non) [some (.ow true (.ob "Frame" (fr n (xs.map D.int) c a))), some (.fz n), some (.fz ns), some (.fz c), some (.fz a)] := by
  have e := name_ev n pn sn
  obtain ⟨ρ, e2⟩ := check_good ns g
  rw [hx] at e2
  have e3 := fun i => whole_ev (.int i) 0 5 rfl
  have e5 := fun i => whole_ev0 (.int i) rfl
  rcases hc with rfl | ⟨i, rfl, i0, i5, hi⟩
  · rcases ha with rfl | ⟨j, rfl, hj⟩
    · simp [m_Frameq_initq, runB, g_Frameq_initq, envOf, e, h, sFldS, putD, e2, fr]
    · have e4 := din_ints j hm
      rw [decide_eq_true hj] at e4
      simp [m_Frameq_initq, runB, g_Frameq_initq, envOf, e, h, sFldS, putD, e2, e5, isInt, ninD, e4, eFld, rdF, List.lookup, fr]
  · have e4 := din_ints i hm
    rw [decide_eq_false hi] at e4
    rcases ha with rfl | ⟨j, rfl, hj⟩
    · simp [m_Frameq_initq, runB, g_Frameq_initq, envOf, e, h, sFldS, putD, e2, e3, goodI, i0, i5, inD, e4, eFld, rdF, List.lookup, fr]
    · have e6 := din_ints j hm
      rw [decide_eq_true hj] at e6
      simp [m_Frameq_initq, runB, g_Frameq_initq, envOf, e, h, sFldS, putD, e2, e3, goodI, i0, i5, inD, ninD, e4, e5, e6, isInt, eFld, rdF, List.lookup, fr]
/-! ### told -/
theorem told_bad {w : Str} (h : ∃ ρ, m_Frameq_initq [.ow true (.ob "Frame" []), .fz n, .fz ns, .fz c, .fz a] = .ex "BadFrame" [("what", .str w)] ρ) :
    m__law_told [.fz n, .fz ns, .fz c, .fz a] = .ok (.fz (.tup [.str "bad", .str w])) [some (.fz n), some (.fz ns), some (.fz c), some (.fz a), none, none] := by
  obtain ⟨ρ, e⟩ := h
  have sz : (2 : Nat) ≤ sizeLine := by decide
  simp [m__law_told, runB, g__law_told, envOf, sTry, eMake, e, noX, List.lookup, eIsX, eXf, sz, clr]
theorem told_ok (pn : pl n = true) (sn : smName n) (h : okName n = true) (g : okNs ns = true) (hx : itemsOf ns = xs.map D.int) (hm : Sm xs) (hc : okC xs c) (ha : okA xs a) :
    m__law_told [.fz n, .fz ns, .fz c, .fz a] = .ok (.fz (.tup [.str "good", .ins "Frame" (fr n (xs.map D.int) c a)])) [some (.fz n), some (.fz ns), some (.fz c), some (.fz a), none, some (.fz (.ins "Frame" (fr n (xs.map D.int) c a)))] := by
  have e := init_ok pn sn h g hx hm hc ha
  have sz : (2 : Nat) ≤ sizeLine := by decide
  simp [m__law_told, runB, g__law_told, envOf, sTry, eMake, e, madeOf, sz]
end
end K03
end
noncomputable section
/-! E25: steps of evaluation, one call after another. -/
namespace DL
open PySem PySem.Spec L2

section
variable {α β γ : Type}
@[simp] theorem y_bb {o : Out α} {f : α → Env → Out β} {g : β → Env → Out γ} : (o.bind f).bind g = o.bind fun a ρ => (f a ρ).bind g := by cases o <;> rfl
@[simp] theorem y_bs {o : Out α} {f : α → Env → Out β} {g : β → Env → SOut} : (o.bind f).sbind g = o.sbind fun a ρ => (f a ρ).sbind g := by cases o <;> rfl
@[simp] theorem y_sb {o : Out α} {f : α → Env → SOut} {g : SSem} : (o.sbind f).bind g = o.sbind fun a ρ => (f a ρ).bind g := by cases o <;> rfl
@[simp] theorem y_ss {o : SOut} {f g : SSem} : (o.bind f).bind g = o.bind fun ρ => (f ρ).bind g := by cases o <;> rfl
end
/-- what a call gives -/
def Gv (o : Out RV) (Q : RV → Env → Prop) : Prop := ∃ r ρ, o = .ok r ρ ∧ Q r ρ
theorem Gv.of {o : Out RV} {Q : RV → Env → Prop} {r : RV} {ρ : Env} (h : o = .ok r ρ) (q : Q r ρ) : Gv o Q := ⟨r, ρ, h, q⟩
theorem Gv.mp {o : Out RV} {Q Q' : RV → Env → Prop} (h : Gv o Q) (q : ∀ r ρ, Q r ρ → Q' r ρ) : Gv o Q' := let ⟨r, ρ, e, x⟩ := h; ⟨r, ρ, e, q r ρ x⟩
/-- a wish for an end -/
def W (Q : SOut → Prop) (o : SOut) : Prop := Q o
/-- .. for a value -/
def V1 {α : Type} (Q : Out α → Prop) (o : Out α) : Prop := Q o
theorem cw {o : Out RV} {S : RV → Env → Prop} {g : Env → Env} {K : RV → Env → SOut} {Q : SOut → Prop} (h : Gv o S) (k : ∀ r ρ, S r ρ → W Q (K r (g ρ))) : W Q ((o.onE g).sbind K) := by
  obtain ⟨r, ρ, rfl, s⟩ := h
  exact k r ρ s
theorem cv {α : Type} {o : Out RV} {S : RV → Env → Prop} {g : Env → Env} {K : RV → Env → Out α} {Q : Out α → Prop} (h : Gv o S) (k : ∀ r ρ, S r ρ → V1 Q (K r (g ρ))) : V1 Q ((o.onE g).bind K) := by
  obtain ⟨r, ρ, rfl, s⟩ := h
  exact k r ρ s
/-- the end of a body -/
def toOut : SOut → Out RV
  | .nx ρ => .ok (.fz .non) ρ
  | .rt r ρ => .ok r ρ
  | .ex c fs ρ => .ex c fs ρ
  | _ => .no
theorem run_w {g : SSem} {n : Nat} {as : List SV} {Q : RV → Env → Prop} (h : W (fun o => Gv (toOut o) Q) (g (envOf as ++ List.replicate (n - as.length) none))) : Gv (runB g n as) Q := by
  have e : runB g n as = toOut (g (envOf as ++ List.replicate (n - as.length) none)) := by
    unfold runB toOut
    cases g (envOf as ++ List.replicate (n - as.length) none) <;> rfl
  rw [e]
  exact h
@[simp] theorem w_rt {r : RV} {ρ : Env} {Q : RV → Env → Prop} : W (fun o => Gv (toOut o) Q) (.rt r ρ) ↔ Q r ρ := ⟨fun ⟨_, _, h, q⟩ => by cases h; exact q, fun q => ⟨_, _, rfl, q⟩⟩
@[simp] theorem w_nx {ρ : Env} {Q : RV → Env → Prop} : W (fun o => Gv (toOut o) Q) (.nx ρ) ↔ Q (.fz .non) ρ := ⟨fun ⟨_, _, h, q⟩ => by cases h; exact q, fun q => ⟨_, _, rfl, q⟩⟩
/-- a turn of a loop -/
def Nx (I : Env → Prop) (o : SOut) : Prop := ∃ ρ, o = .nx ρ ∧ I ρ
@[simp] theorem nx_nx {I : Env → Prop} {ρ : Env} : W (Nx I) (.nx ρ) ↔ I ρ := ⟨fun ⟨_, h, q⟩ => by cases h; exact q, fun q => ⟨_, rfl, q⟩⟩
/-- a loop that keeps I -/
theorem for_keeps {tg : D → Env → Option Env} {b : SSem} {I : Env → Prop} (st : ∀ d ρ, I ρ → ∃ ρ0, tg d ρ = some ρ0 ∧ W (Nx I) (b ρ0)) : ∀ (ds : List D) (ρ : Env), I ρ → ∃ ρ', forL tg b ds ρ = .nx ρ' ∧ I ρ'
  | [], ρ, h => ⟨ρ, rfl, h⟩
  | d :: ds, ρ, h => by
    obtain ⟨ρ0, e, ρ1, e1, h1⟩ := st d ρ h
    obtain ⟨ρ', e2, h2⟩ := for_keeps st ds ρ1 h1
    exact ⟨ρ', by rw [forL, e]; simp only [e1]; exact e2, h2⟩
theorem for_w {tg : D → Env → Option Env} {b g : SSem} {I : Env → Prop} {ds : List D} {ρ : Env} {Q : SOut → Prop} (h : I ρ) (st : ∀ d ρ, I ρ → ∃ ρ0, tg d ρ = some ρ0 ∧ W (Nx I) (b ρ0)) (k : ∀ ρ', I ρ' → W Q (g ρ')) : W Q ((forL tg b ds ρ).bind g) := by
  obtain ⟨ρ', e, h'⟩ := for_keeps st ds ρ h
  rw [e]
  exact k ρ' h'
theorem seq_w {g g' : SSem} {ρ : Env} {J : Env → Prop} {Q : SOut → Prop} (h : W (Nx J) (g ρ)) (k : ∀ ρ', J ρ' → W Q (g' ρ')) : W Q (sQ g g' ρ) := by
  obtain ⟨ρ', e, q⟩ := h
  show W Q ((g ρ).bind g')
  rw [e]
  exact k ρ' q
/-- the draws as calls -/
theorem take_s {h : List D} {m : Int} (H : Hok h) (m0 : 0 < m) (m1 : m < 1073741824) : Gv (cm_take [.ow true (.lst h), .fz (.int m)]) fun r ρ => ∃ v h' ρ', r = .fz (.int v) ∧ ρ = some (.ow true (.lst h')) :: ρ' ∧ Hok h' ∧ 0 ≤ v ∧ v < m := by
  obtain ⟨r, h', ρ, e, q⟩ := take_ok h m H m0 m1
  exact .of e ⟨r, h', ρ, rfl, rfl, q⟩
/-- hands: draw on -/
theorem draw {h : List D} {m : Int} {g : Env → Env} {K : RV → Env → SOut} {Q : SOut → Prop} (H : Hok h) (m0 : 0 < m) (m1 : m < 1073741824) (k : ∀ v h' ρ', Hok h' → 0 ≤ v → v < m → W Q (K (.fz (.int v)) (g (some (.ow true (.lst h')) :: ρ')))) : W Q (((cm_take [.ow true (.lst h), .fz (.int m)]).onE g).sbind K) :=
  cw (take_s H m0 m1) fun _ _ ⟨v, h', ρ', e1, e2, H', r0, r1⟩ => by subst e1 e2; exact k v h' ρ' H' r0 r1
theorem drawV {α : Type} {h : List D} {m : Int} {g : Env → Env} {K : RV → Env → Out α} {Q : Out α → Prop} (H : Hok h) (m0 : 0 < m) (m1 : m < 1073741824) (k : ∀ v h' ρ', Hok h' → 0 ≤ v → v < m → V1 Q (K (.fz (.int v)) (g (some (.ow true (.lst h')) :: ρ')))) : V1 Q (((cm_take [.ow true (.lst h), .fz (.int m)]).onE g).bind K) :=
  cv (take_s H m0 m1) fun _ _ ⟨v, h', ρ', e1, e2, H', r0, r1⟩ => by subst e1 e2; exact k v h' ρ' H' r0 r1
/-! ### objects made -/
def Out.mk1 (c : Str) (g : Env → Env) : Out RV → Out RV
  | .ok r ρa => match madeOf c r ρa.head? with
    | some fs => .ok (.fz (.ins c fs)) (g ρa.tail)
    | none => .no
  | .ex c' fs ρa => .ex c' fs (g ρa.tail)
  | .no => .no
@[simp] theorem x_eMake {c : Str} {m : FSem} {dds : List D} {fs : List ESem} {ρ : Env} : eMake c m dds fs ρ = (eP fs ρ).bind fun rs ρ1 => match argsOf ρ1 (rs ++ dds.map .fz) with
  | some as => if (slotsOf rs).Nodup then (m (.ow true (.ob c []) :: as)).mk1 c (back ρ1 (rs ++ dds.map .fz)) else .no
  | none => .no := by
  unfold eMake
  congr 1
@[simp] theorem x_mk1_ex {c c' : Str} {g : Env → Env} {fs : List (Str × D)} {ρ : Env} : (Out.ex c' fs ρ : Out RV).mk1 c g = .ex c' fs (g ρ.tail) := (rfl)
@[simp] theorem x_mk1_ok {c : Str} {g : Env → Env} {fs : List (Str × D)} {ρ : Env} : (Out.ok (.fz .non) (some (.ow true (.ob c fs)) :: ρ) : Out RV).mk1 c g = .ok (.fz (.ins c fs)) (g ρ) := by simp [Out.mk1, madeOf]
/-! ### comprehensions, loops, fields -/
section
variable {ρ : Env} {src el f : ESem} {tg : Tg1} {tt : CSem} {vs : List Nat} {ds acc : List D} {g : D → Env → Option Env} {b : SSem}
@[simp] theorem x_eLc : eLc src tg tt el vs ρ = (src ρ).bind fun r ρ1 => match rd ρ1 r with
  | some d => (match itemsD d with
    | some ds => (compB tg tt el vs r ds ρ1).nox.bind fun acc ρ2 => .ok (.fr (.lst acc)) ρ2
    | none => .no)
  | none => .no := (rfl)
@[simp] theorem x_compB0 {d : D} : compB tg tt el vs (.fz d) ds ρ = compR tg tt el vs ds ρ := (rfl)
@[simp] theorem x_compB1 {o : OB} : compB tg tt el vs (.fr o) ds ρ = compR tg tt el vs ds ρ := (rfl)
@[simp] theorem x_compB2 {k : Nat} : compB tg tt el vs (.sl k) ds ρ = match ρ[k]? with
    | some (some (.ow w o)) => (compR tg tt el vs ds (ρ.set k (some (.lk o)))).onE (unl k w)
    | _ => compR tg tt el vs ds ρ := (rfl)
@[simp] theorem x_compR : compR tg tt el vs ds ρ = if DL.freeOf ρ vs = true then (compL (tgF tg) tt el vs ds [] (wipeE ρ vs)).bind fun acc ρ' => .ok acc (DL.rest ρ vs ρ') else .no := (rfl)
@[simp] theorem x_compL0 : compL g tt el vs [] acc ρ = .ok acc ρ := (rfl)
@[simp] theorem x_tgN {i : Nat} {d : D} : tgN i d ρ = some (ρ.set i (some (.fz d))) := (rfl)
@[simp] theorem x_tgF {i : Nat} : tgF (.nm i) = tgN i := (rfl)
@[simp] theorem x_wipe0 : wipeE ρ [] = ρ := (rfl)
@[simp] theorem x_wipe1 {v : Nat} : wipeE ρ (v :: vs) = (wipeE ρ vs).set v none := (rfl)
@[simp] theorem x_rest0 {ρ0 : Env} : DL.rest ρ0 [] ρ = ρ := (rfl)
@[simp] theorem x_rest1 {ρ0 : Env} {v : Nat} : DL.rest ρ0 (v :: vs) ρ = (DL.rest ρ0 vs ρ).set v ((ρ0[v]?).join) := (rfl)
@[simp] theorem x_freeOf {vs : List Nat} : DL.freeOf ρ vs = vs.all fun v => match ρ[v]? with
  | some (some s) => !s.obj
  | _ => true := (rfl)
@[simp] theorem x_obj0 {d : D} : (SV.fz d).obj = false := (rfl)
@[simp] theorem x_cYes : cYes ρ = .ok true ρ := (rfl)
@[simp] theorem x_eFld {n : Str} {cs : List Str} : eFld n cs f ρ = (f ρ).bind fun r ρ1 => match rdF ρ1 r with
  | some (c, fs) => if c ∈ cs then (match fs.lookup n with | some d => .ok (.fz d) ρ1 | none => .no) else .no
  | none => .no := (rfl)
@[simp] theorem x_rdF0 {c : Str} {fs : List (Str × D)} : rdF ρ (.fz (.ins c fs)) = some (c, fs) := (rfl)
@[simp] theorem x_eProp {c : Str} {m : FSem} : eProp c m f ρ = (f ρ).bind fun r ρ1 => match rd ρ1 r with
  | some (.ins c' fs) => if c' = c then (match m [.fz (.ins c' fs)] with
    | .ok r' _ => .ok r' ρ1
    | _ => .no) else .no
  | _ => .no := (rfl)
@[simp] theorem x_itL : itemsD (.lst ds) = some ds := (rfl)
@[simp] theorem x_itT : itemsD (.tup ds) = some ds := (rfl)
@[simp] theorem x_listT : listD (.tup ds) = some (.fr (.lst ds)) := (rfl)
@[simp] theorem x_listL : listD (.lst ds) = some (.fr (.lst ds)) := (rfl)
@[simp] theorem x_tupT : tupD (.tup ds) = some (.fz (.tup ds)) := (rfl)
@[simp] theorem x_tupL : tupD (.lst ds) = some (.fz (.tup ds)) := (rfl)
@[simp] theorem x_sFldS {k : Nat} {n : Str} {cs : List Str} : sFldS k n cs f ρ = (eF f ρ).sbind fun d ρ1 => match ρ1[k]? with
  | some (some (.ow b (.ob c fs))) => if c ∈ cs ∧ fs.length < 1000 then .nx (ρ1.set k (some (.ow b (.ob c (putD n d fs))))) else .no
  | _ => .no := (rfl)
@[simp] theorem x_sRaise {c : Str} {n : Nat} {is : List (Str × Nat)} {fs : List ESem} : sRaise c n is fs ρ = (eL fs ρ).sbind fun ds ρ1 => if ds.length = n then .ex c (exFs .non ds is []) ρ1 else .no := (rfl)
end
end DL
end
noncomputable section
set_option maxHeartbeats 4000000
namespace K03
open PySem PySem.Spec L2 DL

def frD (w : Str) (xs : List Int) (c a : D) : D := .ins "Frame" (fr (.str w) (xs.map D.int) c a)
theorem eqD_tups {xs ys : List Int} (h1 : Sm xs) (h2 : Sm ys) : eqD (.tup (xs.map D.int)) (.tup (ys.map D.int)) = some (.fz (.bl (decide (xs = ys)))) := by
  simp [eqD, deq_tups h1 h2]
theorem neD_tups {xs ys : List Int} (h1 : Sm xs) (h2 : Sm ys) : neD (.tup (xs.map D.int)) (.tup (ys.map D.int)) = some (.fz (.bl (!decide (xs = ys)))) := by
  simp [neD, deq_tups h1 h2]
theorem eq_ev {w w' : Str} {xs ys : List Int} {c a c' a' : D} {b1 b2 : Bool} (h1 : Sm xs) (h2 : Sm ys) (hc : eqD c c' = some (.fz (.bl b1))) (ha : eqD a a' = some (.fz (.bl b2))) :
    m_Frameq_eqq [.fz (frD w xs c a), .fz (frD w' ys c' a')] = .ok (.fz (.bl ((decide (w = w') && decide (xs = ys)) && (b1 && b2)))) [some (.fz (frD w xs c a)), some (.fz (frD w' ys c' a'))] := by
  have e1 := neD_tups h1 h2
  by_cases hw : w = w'
  · by_cases hx : xs = ys
    · subst hx
      simp only [decide_true] at e1
      cases b1 <;> simp [m_Frameq_eqq, runB, g_Frameq_eqq, envOf, frD, fr, isiD, List.lookup, eFld, rdF, hw, e1, hc, ha]
    · rw [decide_eq_false hx] at e1
      simp [m_Frameq_eqq, runB, g_Frameq_eqq, envOf, frD, fr, isiD, List.lookup, eFld, rdF, hw, hx, e1]
  · simp [m_Frameq_eqq, runB, g_Frameq_eqq, envOf, frD, fr, isiD, List.lookup, eFld, rdF, hw]
theorem eq_tup {w : Str} {xs : List Int} {c a : D} {ds : List D} : m_Frameq_eqq [.fz (frD w xs c a), .fz (.tup ds)] = .ok (.fz (.bl false)) [some (.fz (frD w xs c a)), some (.fz (.tup ds))] := by
  simp [m_Frameq_eqq, runB, g_Frameq_eqq, envOf, frD, fr, isiD, List.lookup, tyD]
theorem eqD_non : eqD .non .non = some (.fz (.bl true)) := by simp [eqD, deq, D.pd, SeqAt.shaped, PyData.eqv, PyData.canLay0, PyData.depth]
theorem eqD_nonI {i : Int} : eqD .non (.int i) = some (.fz (.bl false)) := by simp [eqD, deq, D.pd, SeqAt.shaped, PyData.eqv, PyData.canLay0, PyData.depth]
theorem neD_non : neD .non .non = some (.fz (.bl false)) := by simp [neD, deq, D.pd, SeqAt.shaped, PyData.eqv, PyData.canLay0, PyData.depth]
/-- a role or none -/
def opt : D → Prop
  | .non => True
  | .int _ => True
  | _ => False
theorem okC.opt {xs : List Int} {c : D} (h : okC xs c) : opt c := by rcases h with rfl | ⟨i, rfl, _⟩ <;> trivial
theorem okA.opt {xs : List Int} {c : D} (h : okA xs c) : opt c := by rcases h with rfl | ⟨i, rfl, _⟩ <;> trivial
theorem eq_opt {c : D} (h : opt c) : eqD c c = some (.fz (.bl true)) := by
  cases c with
  | non => exact eqD_non
  | int i => simp
  | _ => cases h
theorem ne_opt {c : D} (h : opt c) : neD c c = some (.fz (.bl false)) := by
  cases c with
  | non => exact neD_non
  | int i => simp
  | _ => cases h
theorem eq_plain {c : D} (h : opt c) : eqD .non c = some (.fz (.bl c.isNon)) := by
  cases c with
  | non => exact eqD_non
  | int i => exact eqD_nonI
  | _ => cases h
theorem ints_app (xs : List Int) (i : Int) : ints? (xs.map D.int ++ [.int i]) = some (xs ++ [i]) := by
  rw [← ints_map (xs ++ [i])]; simp
def withC (xs : List Int) (c : D) : List Int := match c with
  | .int i => sortI (xs ++ [i])
  | _ => xs
theorem slots_ev {w : Str} {xs : List Int} {c a : D} (h : opt c) (hm : Sm xs) : ∃ ρ, m_Frame_slots [.fz (frD w xs c a)] = .ok (.fz (.tup ((withC xs c).map D.int))) ρ := by
  cases c with
  | non => exact ⟨[some (.fz (frD w xs .non a))], by simp [m_Frame_slots, runB, g_Frame_slots, envOf, frD, fr, List.lookup, eFld, rdF, withC]⟩
  | int i =>
    refine ⟨[some (.fz (frD w xs (.int i) a))], ?_⟩
    have sz : (1 : Nat) ≤ sizeLine := by decide
    have sl : xs.length + 1 ≤ sizeLine := by have := hm.1; rw [szL]; omega
    simp [m_Frame_slots, runB, g_Frame_slots, envOf, frD, fr, List.lookup, eFld, rdF, withC, sz, addD, sl, srtD, ints_app, tupD]
  | _ => cases h
theorem sm_with {xs : List Int} {c : D} (hm : Sm xs) (hl : xs.length ≤ 900) (hc : ∀ i, c = .int i → i.natAbs < 2 ^ 1000) : Sm (withC xs c) := by
  cases c with
  | int i =>
    have p := sortI_perm (xs ++ [i])
    refine ⟨by simp only [withC, p.length_eq, List.length_append, List.length_cons, List.length_nil]; omega, fun x hx => ?_⟩
    have := p.mem_iff.mp hx
    rcases List.mem_append.mp this with h | h
    · exact hm.2 x h
    · rw [List.mem_singleton.mp h]; exact hc i rfl
  | _ => exact hm
theorem shows_ev {w : Str} {xs : List Int} {c a : D} (hc : opt c) (ha : opt a) (hm : Sm xs) (hl : xs.length ≤ 900) (hs : xs.Pairwise (· ≤ ·)) (hi : ∀ i, c = .int i → i.natAbs < 2 ^ 1000) : ∃ ρ, m__law_shows [.fz (frD w xs c a), .fz (.str w), .fz (.tup (xs.map D.int)), .fz c, .fz a] = .ok (.fz (.bl true)) ρ := by
  obtain ⟨ρ, e⟩ := slots_ev (w := w) (a := a) hc hm
  have e1 := neD_tups hm hm
  simp only [decide_true, Bool.not_true] at e1
  have e2 := ne_opt hc
  have e3 := ne_opt ha
  have sz : (1 : Nat) ≤ sizeLine := by decide
  have s0 : (0 : Nat) < sizeLine := by decide
  have hw := sm_with hm hl hi
  have e4 := eqD_tups hw hw
  simp only [decide_true] at e4
  have sl : xs.length ≤ sizeLine := by rw [szL]; omega
  have sl1 : xs.length + 1 ≤ sizeLine := by rw [szL]; omega
  unfold frD fr at e ⊢
  cases c with
  | non =>
    have so : sortI xs = xs := sorted_one (sortI_perm xs) (sortI_sorted xs) hs
    simp only [withC] at e e4
    simp [m__law_shows, runB, g__law_shows, envOf, fr, List.lookup, eFld, rdF, isiD, tyD, e1, e2, e3, compL, sz, s0, addD, listD, srtD, ints_map, so, tupD, eProp, e, e4, sl]
  | int i =>
    simp only [withC] at e e4
    simp [m__law_shows, runB, g__law_shows, envOf, fr, List.lookup, eFld, rdF, isiD, tyD, e1, e2, e3, compL, sz, s0, addD, listD, srtD, ints_app, tupD, eProp, e, e4, sl1]
  | _ => cases hc
end K03
end
noncomputable section
set_option maxHeartbeats 4000000
namespace K03
open PySem PySem.Spec L2 DL

theorem take_eq : m__law_take = cm_take := rfl
theorem hand_eq : m__law_hand = cm_hand := rfl
theorem word_eq : m__law_word = cm_word := rfl
theorem some_eq : m__law_some = cm_some := rfl
/-- what no role is -/
def noRole (d : D) : Prop := pl d = true ∧ (∀ i, d = .int i → ¬ (0 ≤ i ∧ i ≤ 5)) ∧ Fine 0 1 d
theorem fineI {i : Int} (h : i.natAbs < 2 ^ 200) {k n : Nat} : Fine k n (.int i) := fine_int (Nat.lt_of_lt_of_le h (Nat.pow_le_pow_right (by decide) (by decide)))
theorem noRoleI {i : Int} (h : ¬ (0 ≤ i ∧ i ≤ 5)) (hs : i.natAbs < 2 ^ 200) : noRole (.int i) := ⟨rfl, fun j e => by cases e; exact h, fineI hs⟩
theorem noRole_non : noRole .non := ⟨rfl, (fun i e => by cases e), fine_non⟩
theorem noRole_bl {b : Bool} : noRole (.bl b) := ⟨rfl, (fun i e => by cases e), fine_bl⟩
theorem noRole_0 : noRole (.str "0") := ⟨rfl, (fun i e => by cases e), fine_str (by decide +kernel) (by decide +kernel)⟩
theorem pow21 : powD (.int 10) (.int 21) = some (.fz (.int 1000000000000000000000)) := by simp [powD, gI]
theorem noRole_s {h : List D} (H : Hok h) : Gv (m__law_no_role [.ow true (.lst h), .fz (.int 6)]) fun r ρ => ∃ d h' ρ', r = .fz d ∧ ρ = some (.ow true (.lst h')) :: ρ' ∧ Hok h' ∧ noRole d := by
  refine run_w ?_
  simp only [g__law_no_role, take_eq]
  simp [envOf]
  refine draw H (by decide) (by decide) fun v h1 ρ1 H1 v0 v1 => ?_
  simp
  by_cases e0 : v = 0
  · simp [e0]
    exact ⟨H1, noRole_non⟩
  simp [e0]
  by_cases e1 : v = 1
  · simp [e1]
    exact ⟨H1, noRole_bl⟩
  simp [e1]
  by_cases e2 : v = 2
  · simp [e2]
    refine draw H1 (by decide) (by decide) fun v2 h2 ρ2 H2 v20 v21 => ?_
    simp
    exact ⟨H2, noRoleI (by omega) (by omega)⟩
  simp [e2]
  by_cases e3 : v = 3
  · simp [e3, pow21]
    refine draw H1 (by decide) (by decide) fun v2 h2 ρ2 H2 v20 v21 => ?_
    simp
    exact ⟨H2, noRoleI (by omega) (by omega)⟩
  simp [e3]
  by_cases e4 : v = 4
  · simp [e4]
    exact ⟨H1, noRole_0⟩
  simp [e4]
  by_cases e5 : v = 5
  · simp [e5]
    exact ⟨H1, noRole_bl⟩
  simp [e5]
  refine draw H1 (by decide) (by decide) fun v2 h2 ρ2 H2 v20 v21 => ?_
  simp
  exact ⟨H2, noRoleI (by omega) (by omega)⟩
theorem asList_s {h xs : List D} (H : Hok h) : Gv (m__law_as_list [.ow true (.lst h), .fz (.tup xs)]) fun r ρ => ∃ h' ρ', (r = .fr (.lst xs) ∨ r = .fz (.tup xs)) ∧ ρ = some (.ow true (.lst h')) :: ρ' ∧ Hok h' := by
  refine run_w ?_
  simp only [g__law_as_list, take_eq]
  simp [envOf]
  refine draw H (by decide) (by decide) fun v h1 ρ1 H1 v0 v1 => ?_
  by_cases e0 : v = 0
  · simp [e0]; exact H1
  · simp [e0]; exact H1
/-- nouns of a frame -/
structure Nou (xs : List Int) : Prop where
  ri : xs.Pairwise (· < ·)
  b : ∀ x ∈ xs, 0 ≤ x ∧ x ≤ 5
  l : 1 ≤ xs.length ∧ xs.length ≤ 5
theorem Nou.sm {xs : List Int} (h : Nou xs) : Sm xs := ⟨by have := h.l; omega, fun x hx => by
  have := h.b x hx
  have : x.natAbs < 2 ^ 3 := by omega
  exact Nat.lt_of_lt_of_le this (Nat.pow_le_pow_right (by decide) (by decide))⟩
theorem goodN_of : ∀ (xs : List Int) (last : Int), (last :: xs).Pairwise (· < ·) → (∀ x ∈ xs, x ≤ 5) → goodN last (xs.map D.int) = true
  | [], _, _, _ => rfl
  | x :: r, last, h, hb => by
    have h1 := List.rel_of_pairwise_cons h (List.mem_cons_self ..)
    simp only [List.map_cons, goodN, Bool.and_eq_true, decide_eq_true_eq]
    exact ⟨⟨by omega, hb x (List.mem_cons_self ..)⟩, goodN_of r x (List.Pairwise.of_cons h) fun y hy => hb y (List.mem_cons_of_mem _ hy)⟩
theorem Nou.ok {xs : List Int} (h : Nou xs) {d : D} (hd : d = .lst (xs.map D.int) ∨ d = .tup (xs.map D.int)) : okNs d = true := by
  have g : goodN (-1) (xs.map D.int) = true := goodN_of xs (-1) (List.pairwise_cons.mpr ⟨fun x hx => by have := h.b x hx; omega, h.ri⟩) fun x hx => (h.b x hx).2
  have l := h.l
  rcases hd with rfl | rfl <;> simp [okNs, isSeq, itemsOf, g, l.1, l.2]
/-- no nouns -/
def noNouns (d : D) : Prop := pl d = true ∧ (∀ x ∈ itemsOf d, pl x = true) ∧ okNs d = false ∧ Fine 1 100 d
theorem noNouns_non : noNouns .non := ⟨rfl, (fun x e => nomatch e), rfl, fine_non⟩
theorem goodN_last : ∀ (xs : List Int) (c last : Int), goodN last (xs.map D.int ++ [.int c]) = true → (∀ x ∈ xs, x < c) ∧ last < c
  | [], c, last, h => by simp only [List.map_nil, List.nil_append, goodN, Bool.and_eq_true, decide_eq_true_eq] at h; exact ⟨(fun _ h => nomatch h), by omega⟩
  | x :: r, c, last, h => by
    simp only [List.map_cons, List.cons_append, goodN, Bool.and_eq_true, decide_eq_true_eq] at h
    obtain ⟨h1, h2⟩ := goodN_last r c x h.2
    exact ⟨fun y hy => by
      rcases List.mem_cons.mp hy with rfl | hy
      · exact h2
      · exact h1 y hy, by omega⟩
theorem pl_ints {xs : List Int} : ∀ x ∈ xs.map D.int, pl x = true := fun x hx => by
  obtain ⟨i, _, rfl⟩ := List.mem_map.mp hx; rfl
theorem Nou.fine {xs : List Int} (h : Nou xs) : ∀ x ∈ xs.map D.int, Fine 0 1 x := fun x hx => by
  obtain ⟨i, hi, rfl⟩ := List.mem_map.mp hx
  have := h.b i hi
  exact fineI (by omega)
theorem noN_lst {ds : List D} (h1 : ∀ x ∈ ds, pl x = true ∧ Fine 0 1 x) (h2 : ds.length ≤ 10) (h3 : okNs (.lst ds) = false) : noNouns (.lst ds) :=
  ⟨rfl, fun x hx => (h1 x hx).1, h3, fine_lst (k := 0) (m := 1) (l := 10) (fun x hx => (h1 x hx).2) h2 (by decide)⟩
theorem goodN_app : ∀ (ds es : List D) (last : Int), goodN last (ds ++ es) = true → ∃ l, goodN l es = true
  | [], es, last, h => ⟨last, h⟩
  | d :: r, es, last, h => by
    cases d with
    | int i => simp only [List.cons_append, goodN, Bool.and_eq_true] at h; exact goodN_app r es i h.2
    | _ => cases h
theorem noNouns_s {h : List D} {xs : List Int} (H : Hok h) (hx : Nou xs) : Gv (m__law_no_nouns [.ow true (.lst h), .fz (.tup (xs.map D.int))]) fun r ρ => ∃ d h' ρ', (r = .fz d ∨ ∃ ds, r = .fr (.lst ds) ∧ d = .lst ds) ∧ ρ = some (.ow true (.lst h')) :: ρ' ∧ Hok h' ∧ noNouns d := by
  have hl := hx.l
  have s0 : (0 : Nat) ≤ sizeLine := by decide
  have s1 : (1 : Nat) ≤ sizeLine := by decide
  have s6 : (6 : Nat) ≤ sizeLine := by decide
  have sl : xs.length + 1 ≤ sizeLine := by rw [szL]; omega
  have sl' : 1 + xs.length ≤ sizeLine := by rw [szL]; omega
  have P : ∀ x ∈ xs.map D.int, pl x = true ∧ Fine 0 1 x := fun x h => ⟨pl_ints x h, hx.fine x h⟩
  refine run_w ?_
  simp only [g__law_no_nouns, take_eq]
  simp [envOf]
  refine draw H (by decide) (by decide) fun v h1 ρ1 H1 v0 v1 => ?_
  simp
  by_cases e0 : v = 0
  · simp [e0]
    exact ⟨H1, noNouns_non⟩
  simp [e0]
  by_cases e1 : v = 1
  · simp [e1, s0]
    exact ⟨H1, noN_lst (fun x e => nomatch e) (by decide) rfl⟩
  simp [e1]
  by_cases e2 : v = 2
  · simp [e2, s6]
    refine ⟨H1, rfl, fun x e => ?_, rfl, ?_⟩
    · exact pl_ints (xs := [0, 1, 2, 3, 4, 5]) x e
    · refine fine_tup (k := 0) (m := 0) (l := 10) (fun x hx => ?_) (by decide) (by decide)
      simp only [List.mem_cons, List.not_mem_nil, or_false] at hx
      rcases hx with rfl | rfl | rfl | rfl | rfl | rfl <;> exact fine_int (by decide +kernel)
  simp [e2]
  by_cases e3 : v = 3
  · simp [e3]
    refine draw H1 (by omega) (by omega) fun v2 h2 ρ2 H2 v20 v21 => ?_
    have hj : v2.toNat < xs.length := by omega
    have ea := atI_map (c := xs[v2.toNat]) v20 v21 (List.getElem?_eq_getElem hj)
    simp [ea, s1, addD, sl]
    refine ⟨H2, noN_lst (fun x e => ?_) (by simp; omega) ?_⟩
    · rcases List.mem_append.mp e with e | e
      · exact P x e
      · rw [List.mem_singleton.mp e]; exact P _ (List.mem_map.mpr ⟨_, List.getElem_mem hj, rfl⟩)
    · have : goodN (-1) (xs.map D.int ++ [.int xs[v2.toNat]]) = false := by
        cases e : goodN (-1) (xs.map D.int ++ [.int xs[v2.toNat]]) with
        | false => rfl
        | true =>
          have := (goodN_last _ _ _ e).1 _ (List.getElem_mem hj)
          omega
      simp [okNs, itemsOf, this]
  simp [e3]
  by_cases e4 : v = 4
  · simp [e4]
    refine cw (noRole_s H1) fun r ρ2 ⟨d, h2, ρ3, q1, q2, H2, q3⟩ => ?_
    subst q1 q2
    simp [s1, addD, sl']
    refine ⟨H2, noN_lst (fun x e => ?_) (by simp; omega) ?_⟩
    · rcases List.mem_cons.mp e with rfl | e
      · exact ⟨q3.1, q3.2.2⟩
      · exact P x e
    · have : goodN (-1) (d :: xs.map D.int) = false := by
        cases d with
        | int i => 
          have := q3.2.1 i rfl
          have e : (decide (-1 + 1 ≤ i) && decide (i ≤ 5)) = false := by
            rw [Bool.and_eq_false_iff, decide_eq_false_iff_not, decide_eq_false_iff_not]; omega
          simp only [goodN, e, Bool.false_and]
        | _ => rfl
      simp [okNs, itemsOf, this]
  simp [e4]
  by_cases e5 : v = 5
  · simp [e5]
    refine draw H1 (by omega) (by omega) fun v2 h2 ρ2 H2 v20 v21 => ?_
    simp [s1, addD, sl]
    refine ⟨H2, noN_lst (fun x e => ?_) (by simp; omega) ?_⟩
    · rcases List.mem_append.mp e with e | e
      · exact P x e
      · rw [List.mem_singleton.mp e]; exact ⟨rfl, fineI (by omega)⟩
    · have : goodN (-1) (xs.map D.int ++ [.int (6 + v2)]) = false := by
        cases e : goodN (-1) (xs.map D.int ++ [.int (6 + v2)]) with
        | false => rfl
        | true =>
          obtain ⟨l, q⟩ := goodN_app _ _ _ e
          simp only [goodN, Bool.and_eq_true, decide_eq_true_eq] at q
          omega
      simp [okNs, itemsOf, this]
  simp [e5, s1, addD, sl']
  refine ⟨H1, noN_lst (fun x e => ?_) (by simp; omega) ?_⟩
  · rcases List.mem_cons.mp e with rfl | e
    · exact ⟨rfl, fineI (by decide +kernel)⟩
    · exact P x e
  · cases xs with
    | nil => simp at hl
    | cons x r =>
      have := hx.b x (List.mem_cons_self ..)
      have e : (decide ((5 : Int) + 1 ≤ x) && decide (x ≤ 5)) = false := by
            rw [Bool.and_eq_false_iff, decide_eq_false_iff_not, decide_eq_false_iff_not]; omega
      have : goodN (-1) (.int 5 :: (x :: r).map D.int) = false := by
        simp only [List.map_cons, goodN, e, Bool.false_and, Bool.and_false]
      simp only [okNs, itemsOf]
      rw [this]; simp
end K03
end
noncomputable section
/-! E26: small facts: items by place, rows compared. -/
namespace DL
open PySem PySem.Spec L2

theorem at_n {xs : List D} {n : Nat} {x : D} (h : xs[n]? = some x) : atI xs (n : Int) = some x := by
  have hn : n < xs.length := (List.getElem?_eq_some_iff.mp h).1
  have : ixN xs.length (n : Int) = some n := by unfold ixN; rw [if_pos (by omega), if_pos (by omega)]; rfl
  simp only [atI, this, Option.bind, h]
theorem at_some {xs : List D} {i : Int} (h0 : 0 ≤ i) (h1 : i < xs.length) : ∃ d, atI xs i = some d ∧ d ∈ xs := by
  have hn : i.toNat < xs.length := by omega
  have e : atI xs i = some xs[i.toNat] := by
    have := at_n (xs := xs) (n := i.toNat) (List.getElem?_eq_getElem hn)
    rwa [show ((i.toNat : Nat) : Int) = i by omega] at this
  exact ⟨_, e, List.getElem_mem hn⟩
section
variable {a b c d e f g x : D} {xs : List D}
@[simp] theorem at_0 : atI (a :: xs) 0 = some a := at_n (n := 0) rfl
@[simp] theorem at_1 : atI (a :: b :: xs) 1 = some b := at_n (n := 1) rfl
@[simp] theorem at_2 : atI (a :: b :: c :: xs) 2 = some c := at_n (n := 2) rfl
@[simp] theorem at_3 : atI (a :: b :: c :: d :: xs) 3 = some d := at_n (n := 3) rfl
@[simp] theorem at_4 : atI (a :: b :: c :: d :: e :: xs) 4 = some e := at_n (n := 4) rfl
@[simp] theorem at_5 : atI (a :: b :: c :: d :: e :: f :: xs) 5 = some f := at_n (n := 5) rfl
@[simp] theorem at_6 : atI (a :: b :: c :: d :: e :: f :: g :: xs) 6 = some g := at_n (n := 6) rfl
end
theorem szk {n : Nat} (h : n ≤ 16777216) : n ≤ sizeLine := by rw [szL]; exact h
theorem szk' {n : Nat} (h : n < 16777216) : n < sizeLine := by rw [szL]; exact h
@[simp] theorem sz0 : (0 : Nat) ≤ sizeLine := szk (by decide)
@[simp] theorem sz0' : (0 : Nat) < sizeLine := szk' (by decide)
@[simp] theorem sz1 : (1 : Nat) ≤ sizeLine := szk (by decide)
@[simp] theorem sz1' : (1 : Nat) < sizeLine := szk' (by decide)
@[simp] theorem sz2 : (2 : Nat) ≤ sizeLine := szk (by decide)
@[simp] theorem sz3 : (3 : Nat) ≤ sizeLine := szk (by decide)
@[simp] theorem sz4 : (4 : Nat) ≤ sizeLine := szk (by decide)
@[simp] theorem sz5 : (5 : Nat) ≤ sizeLine := szk (by decide)
@[simp] theorem sz6 : (6 : Nat) ≤ sizeLine := szk (by decide)
@[simp] theorem sz7 : (7 : Nat) ≤ sizeLine := szk (by decide)
@[simp] theorem sz8 : (8 : Nat) ≤ sizeLine := szk (by decide)
/-! ### texts -/
theorem strOk_of {x : Str} (h : ∀ c ∈ TL.tl x, c < 1114112) : PyData.strOk x = true := by
  simp only [PyData.strOk, Array.all_eq_true']
  intro c hc
  exact decide_eq_true (h c (Array.mem_toList_iff.mpr hc))
theorem low_ok {x : Str} (h : low x) : PyData.strOk x = true := strOk_of fun c hc => by have := h c hc; omega
theorem sIx_1 {n : Nat} (h : 1 ≤ n) : HT.sIx n 0 (some 1) = 1 := by
  have := HT.sIx_nat n 0 1
  rw [show (((1 : Nat) : Int)) = 1 from rfl] at this
  rw [this]; omega
theorem tl_tail {x : Str} (h : 1 ≤ x.length) : TL.tl (cutS x (some 1) none) = (TL.tl x).drop 1 := by
  show ((x.cps.toList.drop (HT.sIx x.length 0 (some 1))).take (HT.sIx x.length x.length none - HT.sIx x.length 0 (some 1))).toArray.toList = _
  rw [sIx_1 h, HT.sIx_none]
  show List.take _ _ = _
  rw [List.take_of_length_le]
  rw [List.length_drop, Array.length_toList]
  exact Nat.le_refl _
theorem tail_len {x : Str} (h : 1 ≤ x.length) : (cutS x (some 1) none).length = x.length - 1 := by
  rw [TL.len_tl, tl_tail h, List.length_drop, ← TL.len_tl]
theorem low_tail {x : Str} (h : low x) (h1 : 1 ≤ x.length) : low (cutS x (some 1) none) := fun c hc => by
  have : c ∈ TL.tl (cutS x (some 1) none) := hc
  rw [tl_tail h1] at this
  exact h c (List.mem_of_mem_drop this)
theorem low_app {x y : Str} (h : low x) (h' : low y) : low (x ++ y) := fun c hc => by
  have : c ∈ TL.tl (x ++ y) := hc
  rw [TL.tl_append] at this
  rcases List.mem_append.mp this with q | q
  · exact h c q
  · exact h' c q
theorem addS {x y : Str} (h : x.length + y.length ≤ 16777216) : addD (.str x) (.str y) = some (.fz (.str (x ++ y))) := by
  simp only [addD]; rw [if_pos (szk h)]
theorem slcS {x : Str} {lo hi : Option Int} (h : x.length ≤ 16777216) : slcD (.str x) lo hi = some (.fz (.str (cutS x lo hi))) := by
  simp only [slcD]; rw [if_pos (szk h)]
@[simp] theorem x_eSlc {f : ESem} {lo hi : Option ESem} {ρ : Env} : eSlc f lo hi ρ = (f ρ).bind fun r ρ1 => (eO lo ρ1).bind fun l ρ2 => (eO hi ρ2).bind fun h ρ3 => match rd ρ3 r with
  | some x => (match slcD x l h with | some r => .ok r ρ3 | none => .no)
  | none => .no := (rfl)
@[simp] theorem x_eO0 {ρ : Env} : eO none ρ = .ok none ρ := (rfl)
@[simp] theorem x_eO1 {f : ESem} {ρ : Env} : eO (some f) ρ = (f ρ).bind fun r ρ1 => match r with
    | .fz (.int i) => .ok (some i) ρ1
    | _ => .no := (rfl)
theorem eqD_nil : eqD (.lst []) (.lst []) = some (.fz (.bl true)) := rfl
theorem Fine.deq {k n k' n' : Nat} {x y : D} (h1 : Fine k n x) (h2 : Fine k' n' y) (hk : k ≤ 64) (hk' : k' ≤ 64) : ∃ p q, x.pd = some p ∧ y.pd = some q ∧ DL.deq x y = some (PyData.eqv p q) := by
  obtain ⟨p, e, hp⟩ := h1
  obtain ⟨q, f, hq⟩ := h2
  exact ⟨p, q, e, f, fine_deq e f hp hq hk hk'⟩
theorem eqD_cons {k n : Nat} {x : D} {xs : List D} (h : Fine k n (.lst (x :: xs))) (hk : k ≤ 64) : eqD (.lst (x :: xs)) (.lst []) = some (.fz (.bl false)) := by
  obtain ⟨p, q, e, f, z⟩ := h.deq (fine_lst (k := 0) (m := 0) (l := 0) (n := 0) (xs := []) (fun _ h => nomatch h) (by decide) (by decide)) hk (by decide)
  simp only [D.pd, pdL] at e f
  cases f
  cases e1 : x.pd with
  | none => rw [e1] at e; cases e
  | some a =>
    cases e2 : pdL xs with
    | none => rw [e1, e2] at e; cases e
    | some b =>
      rw [e1, e2] at e
      cases e
      simp only [eqD, z, PyData.eqv, PyData.eqvAll, Option.map]
theorem neD_self {k n : Nat} {x : D} (h : Fine k n x) (hk : k ≤ 64) (hs : ∀ s, x ≠ .str s) : neD x x = some (.fz (.bl false)) := by
  have := deq_self h hk
  cases x <;> first | exact absurd rfl (hs _) | simp [neD, this]
theorem eqD_self {k n : Nat} {x : D} (h : Fine k n x) (hk : k ≤ 64) (hs : ∀ s, x ≠ .str s) : eqD x x = some (.fz (.bl true)) := by
  have := deq_self h hk
  cases x <;> first | exact absurd rfl (hs _) | simp [eqD, this]
end DL
end
noncomputable section
set_option maxHeartbeats 4000000
namespace K03
open PySem PySem.Spec L2 DL

theorem word_s {h : List D} {m : Int} (H : Hok h) (m0 : 0 < m) (m1 : m < 1000) : Gv (cm_word [.ow true (.lst h), .fz (.int m)]) fun r ρ => ∃ (w : Str) (h' : List D) (ρ' : DL.Env), r = .fz (.str w) ∧ ρ = some (.ow true (.lst h')) :: ρ' ∧ Hok h' ∧ low w ∧ 1 ≤ w.length ∧ (w.length : Int) ≤ m := by
  obtain ⟨w, h', e, q⟩ := word_ok h m H m0 m1
  exact .of e ⟨w, h', _, rfl, rfl, q⟩
theorem some_s {h : List D} {d : D} {ns : List Int} {m : Int} (H : Hok h) (hd : listD d = some (.fr (.lst (ns.map D.int)))) (hl : ns.length ≤ 1000) (hn : ns.Nodup) (m0 : 0 ≤ m) (m1 : m ≤ ns.length) : Gv (cm_some [.ow true (.lst h), .fz d, .fz (.int m)]) fun r ρ => ∃ (rs : List Int) (h' : List D) (ρ' : DL.Env), r = .fz (.tup (rs.map D.int)) ∧ ρ = some (.ow true (.lst h')) :: ρ' ∧ Hok h' ∧ rs.Pairwise (· < ·) ∧ (∀ r ∈ rs, r ∈ ns) ∧ (rs.length : Int) = m := by
  obtain ⟨rs, h', ρ, e, q1, q2, q3, H'⟩ := some_ok h d ns m.toNat H hd hl hn
  rw [show ((m.toNat : Nat) : Int) = m by omega] at e
  exact .of e ⟨rs, h', ρ, rfl, rfl, H', q1, q2, by omega⟩
theorem range6 : rangeD 0 6 = ([0, 1, 2, 3, 4, 5] : List Int).map D.int := rfl
def Inv (ns : List Int) (ρ : DL.Env) : Prop := ∃ h z2 z3 z4 z5 z6 z7 z8 z9 z10 z11 z12, Hok h ∧ ρ = [some (.fz (.scr ns)), some (.ow false (.lst h)), z2, z3, z4, z5, z6, z7, z8, z9, z10, z11, z12, none]
/-- a word for each spoilt part -/
def wd (b : Bool) (x : Str) : List Str := if b = true then [x] else []
def wds (b0 b1 b2 b3 : Bool) : List Str := wd b0 "name" ++ (wd b1 "nouns" ++ (wd b2 "clause" ++ wd b3 "agreed"))
theorem wds_fine (b0 b1 b2 b3 : Bool) : ∀ x ∈ (wds b0 b1 b2 b3).map D.str, Fine 0 10 x := by
  have : ∀ b0 b1 b2 b3 : Bool, (wds b0 b1 b2 b3).all (fun s => PyData.strOk s && decide (s.length ≤ 10)) = true := by decide +kernel
  intro x hx
  obtain ⟨s, hs, rfl⟩ := List.mem_map.mp hx
  have := List.all_eq_true.mp (this b0 b1 b2 b3) s hs
  simp only [Bool.and_eq_true, decide_eq_true_eq] at this
  exact fine_str this.1 this.2
theorem wds_len (b0 b1 b2 b3 : Bool) : (wds b0 b1 b2 b3).length ≤ 4 := by
  have : ∀ b0 b1 b2 b3 : Bool, (wds b0 b1 b2 b3).length ≤ 4 := by decide +kernel
  exact this b0 b1 b2 b3
/-- the parts as they are or spoilt -/
structure Prt (w : Str) (xs : List Int) (b0 b1 b2 b3 : Bool) (d0 d1 d2 d3 : D) : Prop where
  h0 : (b0 = false ∧ d0 = .str w) ∨ (b0 = true ∧ okName d0 = false)
  p0 : pl d0 = true ∧ smName d0 ∧ Fine 1 100 d0
  h1 : (b1 = false ∧ d1 = .lst (xs.map D.int)) ∨ (b1 = true ∧ noNouns d1)
  p1 : Fine 1 100 d1
  h2 : (b2 = false ∧ okC xs d2) ∨ (b2 = true ∧ badC xs d2)
  p2 : Fine 1 100 d2
  h3 : (b3 = false ∧ okA xs d3) ∨ (b3 = true ∧ badA xs d3)
  p3 : Fine 1 100 d3
section
variable {w : Str} {xs : List Int} {b0 b1 b2 b3 : Bool} {d0 d1 d2 d3 : D}
theorem Prt.nouns (P : Prt w xs b0 b1 b2 b3 d0 d1 d2 d3) (hx : Nou xs) : pl d1 = true ∧ (∀ x ∈ itemsOf d1, pl x = true) ∧ (b1 = false → okNs d1 = true ∧ itemsOf d1 = xs.map D.int) ∧ (b1 = true → okNs d1 = false) := by
  rcases P.h1 with ⟨h, rfl⟩ | ⟨h, q⟩
  · exact ⟨rfl, pl_ints, fun _ => ⟨hx.ok (.inl rfl), rfl⟩, (fun e => by rw [h] at e; cases e)⟩
  · exact ⟨q.1, q.2.1, (fun e => by rw [h] at e; cases e), fun _ => q.2.2.1⟩
/-- what is told of them -/
theorem Prt.told (P : Prt w xs b0 b1 b2 b3 d0 d1 d2 d3) (hx : Nou xs) (hw : okName (.str w) = true) : 
    ((wds b0 b1 b2 b3 = [] ∧ okC xs d2 ∧ okA xs d3 ∧ ∃ ρ, m__law_told [.fz d0, .fz d1, .fz d2, .fz d3] = .ok (.fz (.tup [.str "good", frD w xs d2 d3])) ρ) ∨
    ∃ k r ρ, wds b0 b1 b2 b3 = k :: r ∧ m__law_told [.fz d0, .fz d1, .fz d2, .fz d3] = .ok (.fz (.tup [.str "bad", .str k])) ρ) := by
  obtain ⟨n1, n2, n3, n4⟩ := P.nouns hx
  rcases P.h0 with ⟨rfl, rfl⟩ | ⟨rfl, h0⟩
  · cases b1 with
    | true => exact .inr ⟨_, _, _, rfl, told_bad (init_nouns P.p0.1 P.p0.2.1 hw n1 n2 (n4 rfl))⟩
    | false =>
      obtain ⟨m1, m2⟩ := n3 rfl
      rcases P.h2 with ⟨rfl, h2⟩ | ⟨rfl, h2⟩
      · rcases P.h3 with ⟨rfl, h3⟩ | ⟨rfl, h3⟩
        · exact .inl ⟨rfl, h2, h3, _, told_ok P.p0.1 P.p0.2.1 hw m1 m2 hx.sm h2 h3⟩
        · exact .inr ⟨_, _, _, rfl, told_bad (init_agreed P.p0.1 P.p0.2.1 hw m1 m2 hx.sm h2 h3)⟩
      · exact .inr ⟨_, _, _, rfl, told_bad (init_clause P.p0.1 P.p0.2.1 hw m1 m2 hx.sm h2)⟩
  · exact .inr ⟨_, _, _, rfl, told_bad (init_name P.p0.1 P.p0.2.1 h0)⟩
theorem Prt.repr (P : Prt w xs b0 b1 b2 b3 d0 d1 d2 d3) : ∃ s, reprD (.lst [d0, d1, d2, d3]) = some (.fz (.str s)) := by
  refine repr_lst (k := 2) (n := 1000) (fine_lst (k := 1) (m := 100) (l := 4) (fun x hx => ?_) (Nat.le_refl 4) (by decide)) (by decide) (by decide)
  simp only [List.mem_cons, List.not_mem_nil, or_false] at hx
  rcases hx with rfl | rfl | rfl | rfl
  · exact P.p0.2.2
  · exact P.p1
  · exact P.p2
  · exact P.p3
theorem nou_le {xs : List Int} (hx : Nou xs) : xs.Pairwise (· ≤ ·) := hx.ri.imp fun h => by omega
theorem okC_small {xs : List Int} {c : D} (h : okC xs c) : ∀ i, c = .int i → i.natAbs < 2 ^ 1000 := fun i e => by
  rcases h with rfl | ⟨j, rfl, j0, j1, _⟩
  · cases e
  · cases e
    have : i.natAbs < 2 ^ 3 := by omega
    exact Nat.lt_of_lt_of_le this (Nat.pow_le_pow_right (by decide) (by decide))
theorem shows_k (hx : Nou xs) (hc : okC xs d2) (ha : okA xs d3) : ∃ ρ, m__law_shows [.fz (frD w xs d2 d3), .fz (.str w), .fz (.tup (xs.map D.int)), .fz d2, .fz d3] = .ok (.fz (.bl true)) ρ :=
  shows_ev hc.opt ha.opt hx.sm (by have := hx.l; omega) (nou_le hx) (okC_small hc)
theorem inv_mk {ns : List Int} {h : List D} {z2 z3 z4 z5 z6 z7 z8 z9 z10 z11 z12 : Option SV} (H : Hok h) : Inv ns [some (.fz (.scr ns)), some (.ow false (.lst h)), z2, z3, z4, z5, z6, z7, z8, z9, z10, z11, z12, none] := ⟨h, _, _, _, _, _, _, _, _, _, _, _, H, rfl⟩
theorem last_w {ns : List Int} {h : List D} {z2 z5 z6 z7 z8 z9 z12 : Option SV} (H : Hok h) (hx : Nou xs) (hw : okName (.str w) = true) (P : Prt w xs b0 b1 b2 b3 d0 d1 d2 d3) :
    W (Nx (Inv ns)) (g_law_25 [some (.fz (.scr ns)), some (.ow false (.lst h)), z2, some (.fz (.str w)), some (.fz (.tup (xs.map D.int))), z5, z6, z7, z8, z9, some (.ow false (.lst ((wds b0 b1 b2 b3).map D.str))), some (.ow false (.lst [d0, d1, d2, d3])), z12, none]) := by
  obtain ⟨s, es⟩ := P.repr
  have s0 : (0 : Nat) ≤ sizeLine := by decide
  have s2 : (2 : Nat) ≤ sizeLine := by decide
  rcases P.told hx hw with ⟨e1, h2, h3, ρ1, e2⟩ | ⟨k, r, ρ1, e1, e2⟩
  · obtain ⟨ρ2, e3⟩ := shows_k (w := w) hx h2 h3
    rw [e1]
    simp [g_law_25, g_law_26, g_law_27, es, e2, e3, eqD_nil]
    exact inv_mk H
  · have hf := wds_fine b0 b1 b2 b3
    have hl := wds_len b0 b1 b2 b3
    rw [e1] at hf hl ⊢
    have f1 := eqD_cons (fine_lst (k := 0) (m := 10) (l := 4) (n := 100) hf (by simpa using hl) (by decide)) (by decide)
    have f2 : Fine 1 100 (.tup [.str "bad", .str k]) := fine_tup (k := 0) (m := 10) (l := 2) (fun x hx => by
      simp only [List.mem_cons, List.not_mem_nil, or_false] at hx
      rcases hx with rfl | rfl
      · exact fine_str (by decide +kernel) (by decide +kernel)
      · exact hf _ (by simp)) (Nat.le_refl 2) (by decide)
    have f3 := neD_self f2 (by decide) (fun s h => nomatch h)
    simp [g_law_25, g_law_26, g_law_27, es, e2, f1, f3]
    exact inv_mk H
theorem wds_3 : (wds b0 b1 b2 false).map D.str ++ [.str "agreed"] = (wds b0 b1 b2 true).map D.str := by cases b0 <;> cases b1 <;> cases b2 <;> rfl
theorem wds_2 : (wds b0 b1 false false).map D.str ++ [.str "clause"] = (wds b0 b1 true false).map D.str := by cases b0 <;> cases b1 <;> rfl
theorem wds_1 : (wds b0 false false false).map D.str ++ [.str "nouns"] = (wds b0 true false false).map D.str := by cases b0 <;> rfl
theorem wds_0 : (wds false false false false).map D.str ++ [.str "name"] = (wds true false false false).map D.str := rfl
theorem wds_sz : (wds b0 b1 b2 b3).length < sizeLine := szk' (by have := wds_len b0 b1 b2 b3; omega)
/-- the rest of the roles -/
def Rst (xs rs : List Int) : Prop := 1 ≤ rs.length ∧ rs.length ≤ 6 ∧ ∀ r ∈ rs, r ∉ xs ∧ 0 ≤ r ∧ r ≤ 5
theorem fineI1 {i : Int} (h : 0 ≤ i ∧ i ≤ 5) : Fine 1 100 (.int i) := fineI (by omega)
theorem badA_of {d : D} (hx : Nou xs) (h : noRole d) (hn : d ≠ .non) : badA xs d := ⟨h.1, hn, fun i e hi => h.2.1 i e (hx.b i hi)⟩
theorem badC_of {d : D} (h : noRole d) (hn : d ≠ .non) : badC xs d := ⟨h.1, hn, fun i e => .inl (h.2.1 i e)⟩
theorem nonT {d : D} (h : d ≠ .non) : d.isNon = false := by cases d <;> first | rfl | exact absurd rfl h
theorem w23 {ns rs : List Int} {h : List D} {z2 z6 z7 z8 z9 z12 : Option SV} (H : Hok h) (hx : Nou xs) (hr : Rst xs rs) (hw : okName (.str w) = true) (P : Prt w xs b0 b1 b2 false d0 d1 d2 d3) :
    W (Nx (Inv ns)) (g_law_23 [some (.fz (.scr ns)), some (.ow false (.lst h)), z2, some (.fz (.str w)), some (.fz (.tup (xs.map D.int))), some (.ow false (.lst (rs.map D.int))), z6, z7, z8, z9, some (.ow false (.lst ((wds b0 b1 b2 false).map D.str))), some (.ow false (.lst [d0, d1, d2, d3])), z12, none]) := by
  simp [g_law_23, g_law_24, take_eq]
  refine draw H (by decide) (by decide) fun v h1 ρ1 H1 v0 v1 => ?_
  by_cases e0 : v = 0
  · simp [e0]
    refine draw H1 (by decide) (by decide) fun v2 h2 ρ2 H2 v20 v21 => ?_
    by_cases e1 : v2 = 0
    · simp [e1]
      have hr1 := hr.1
      have hr2 := hr.2.1
      refine draw H2 (by omega) (by omega) fun v3 h3 ρ3 H3 v30 v31 => ?_
      have hj : v3.toNat < rs.length := by omega
      have ea := atI_map (c := rs[v3.toNat]) v30 v31 (List.getElem?_eq_getElem hj)
      have hq := hr.2.2 _ (List.getElem_mem hj)
      simp [ea, ix4_3, wds_sz, wds_3]
      exact last_w H3 hx hw ⟨P.h0, P.p0, P.h1, P.p1, P.h2, P.p2, .inr ⟨rfl, rfl, (fun e => nomatch e), fun i e => by cases e; exact hq.1⟩, fineI1 hq.2⟩
    · simp [e1]
      refine cw (noRole_s H2) ?_
      rintro _ _ ⟨d, h3, ρ3, rfl, rfl, H3, q⟩
      simp
      by_cases hn : d = .non
      · subst hn
        simp
        exact last_w H3 hx hw ⟨P.h0, P.p0, P.h1, P.p1, P.h2, P.p2, .inl ⟨rfl, .inl rfl⟩, fine_non⟩
      · simp [nonT hn, wds_sz, wds_3]
        exact last_w H3 hx hw ⟨P.h0, P.p0, P.h1, P.p1, P.h2, P.p2, .inr ⟨rfl, badA_of hx q hn⟩, q.2.2.mono (by decide) (by decide)⟩
  · simp [e0]
    exact last_w H1 hx hw P
end
end K03
end
noncomputable section
set_option maxHeartbeats 4000000
namespace K03
open PySem PySem.Spec L2 DL

section
variable {w : Str} {xs rs : List Int} {b0 b1 b2 b3 : Bool} {d0 d1 d2 d3 : D} {ns : List Int} {h : List D} {z2 z6 z7 z8 z9 z12 : Option SV}
theorem w21 (H : Hok h) (hx : Nou xs) (hr : Rst xs rs) (hw : okName (.str w) = true) (P : Prt w xs b0 b1 false false d0 d1 d2 d3) :
    W (Nx (Inv ns)) (g_law_21 [some (.fz (.scr ns)), some (.ow false (.lst h)), z2, some (.fz (.str w)), some (.fz (.tup (xs.map D.int))), some (.ow false (.lst (rs.map D.int))), z6, z7, z8, z9, some (.ow false (.lst ((wds b0 b1 false false).map D.str))), some (.ow false (.lst [d0, d1, d2, d3])), z12, none]) := by
  simp [g_law_21, g_law_22, take_eq]
  refine draw H (by decide) (by decide) fun v h1 ρ1 H1 v0 v1 => ?_
  by_cases e0 : v = 0
  · simp [e0]
    refine draw H1 (by decide) (by decide) fun v2 h2 ρ2 H2 v20 v21 => ?_
    by_cases e1 : v2 = 0
    · simp [e1]
      have hr1 := hx.l
      refine draw H2 (by omega) (by omega) fun v3 h3 ρ3 H3 v30 v31 => ?_
      have hj : v3.toNat < xs.length := by omega
      have ea := atI_map (c := xs[v3.toNat]) v30 v31 (List.getElem?_eq_getElem hj)
      have hq := List.getElem_mem hj
      simp [ea, ix4_2, wds_sz, wds_2]
      exact w23 H3 hx hr hw ⟨P.h0, P.p0, P.h1, P.p1, .inr ⟨rfl, rfl, (fun e => nomatch e), fun i e => by cases e; exact .inr hq⟩, fineI1 (hx.b _ hq), P.h3, P.p3⟩
    · simp [e1]
      refine cw (noRole_s H2) ?_
      rintro _ _ ⟨d, h3, ρ3, rfl, rfl, H3, q⟩
      simp
      by_cases hn : d = .non
      · subst hn
        simp
        exact w23 H3 hx hr hw ⟨P.h0, P.p0, P.h1, P.p1, .inl ⟨rfl, .inl rfl⟩, fine_non, P.h3, P.p3⟩
      · simp [nonT hn, wds_sz, wds_2]
        exact w23 H3 hx hr hw ⟨P.h0, P.p0, P.h1, P.p1, .inr ⟨rfl, badC_of q hn⟩, q.2.2.mono (by decide) (by decide), P.h3, P.p3⟩
  · simp [e0]
    exact w23 H1 hx hr hw P
theorem w19 (H : Hok h) (hx : Nou xs) (hr : Rst xs rs) (hw : okName (.str w) = true) (P : Prt w xs b0 false false false d0 d1 d2 d3) :
    W (Nx (Inv ns)) (g_law_19 [some (.fz (.scr ns)), some (.ow false (.lst h)), z2, some (.fz (.str w)), some (.fz (.tup (xs.map D.int))), some (.ow false (.lst (rs.map D.int))), z6, z7, z8, z9, some (.ow false (.lst ((wds b0 false false false).map D.str))), some (.ow false (.lst [d0, d1, d2, d3])), z12, none]) := by
  simp [g_law_19, g_law_20, take_eq]
  refine draw H (by decide) (by decide) fun v h1 ρ1 H1 v0 v1 => ?_
  by_cases e0 : v = 0
  · simp [e0]
    refine cw (noNouns_s H1 hx) ?_
    rintro _ _ ⟨d, h2, ρ2, (rfl | ⟨ds, rfl, rfl⟩), rfl, H2, q⟩
    · simp [ix4_1, wds_sz, wds_1]
      exact w21 H2 hx hr hw ⟨P.h0, P.p0, .inr ⟨rfl, q⟩, q.2.2.2, P.h2, P.p2, P.h3, P.p3⟩
    · simp [ix4_1, wds_sz, wds_1]
      exact w21 H2 hx hr hw ⟨P.h0, P.p0, .inr ⟨rfl, q⟩, q.2.2.2, P.h2, P.p2, P.h3, P.p3⟩
  · simp [e0]
    exact w21 H1 hx hr hw P
theorem len8 : ("abcdefgh" : Str).length = 8 := by decide +kernel
theorem lenA : ("A" : Str).length = 1 := by decide +kernel
theorem low8 : low "abcdefgh" := by
  have : ((TL.tl ("abcdefgh" : Str)).all fun c => decide (97 ≤ c ∧ c ≤ 122)) = true := by decide +kernel
  intro c hc
  exact of_decide_eq_true (List.all_eq_true.mp this c hc)
theorem badName (hl : low w) (hl1 : 1 ≤ w.length) (hl8 : w.length ≤ 8) : ∀ d ∈ [D.non, .str "", .str (w ++ "abcdefgh"), .str ("A" ++ cutS w (some 1) none), .int 3], okName d = false ∧ pl d = true ∧ smName d ∧ Fine 1 100 d := by
  intro d hd
  simp only [List.mem_cons, List.not_mem_nil, or_false] at hd
  rcases hd with rfl | rfl | rfl | rfl | rfl
  · exact ⟨rfl, rfl, trivial, fine_non⟩
  · exact ⟨by decide +kernel, rfl, by show (("" : Str).length ≤ 100); decide +kernel, fine_str (by decide +kernel) (by decide +kernel)⟩
  · have e : (w ++ ("abcdefgh" : Str)).length = w.length + 8 := by rw [Str.length_append, len8]
    refine ⟨?_, rfl, ?_, fine_str (low_ok (low_app hl low8)) (by omega)⟩
    · simp only [okName, e, Bool.and_eq_false_iff, decide_eq_false_iff_not]; omega
    · show (w ++ ("abcdefgh" : Str)).length ≤ 100; omega
  · have e : (("A" : Str) ++ cutS w (some 1) none).length = w.length := by rw [Str.length_append, lenA, tail_len hl1]; omega
    have t : TL.tl (("A" : Str) ++ cutS w (some 1) none) = 65 :: TL.tl (cutS w (some 1) none) := by
      rw [TL.tl_append, TL.tl_ofString]; rfl
    refine ⟨?_, rfl, ?_, fine_str (strOk_of fun c hc => ?_) (by omega)⟩
    · have : (("A" : Str) ++ cutS w (some 1) none).cps.toList.all inAbc = false := by
        show (TL.tl (("A" : Str) ++ cutS w (some 1) none)).all inAbc = false
        rw [t, List.all_cons, show inAbc 65 = false by decide +kernel, Bool.false_and]
      simp only [okName, this, Bool.and_false]
    · show (("A" : Str) ++ cutS w (some 1) none).length ≤ 100; omega
    · rw [t] at hc
      rcases List.mem_cons.mp hc with rfl | hc
      · decide
      · have := low_tail hl hl1 c hc; omega
  · exact ⟨rfl, rfl, trivial, fineI (by decide +kernel)⟩
theorem w17 (H : Hok h) (hx : Nou xs) (hr : Rst xs rs) (hl : low w) (hl1 : 1 ≤ w.length) (hl8 : w.length ≤ 8) (P : Prt w xs false false false false d0 d1 d2 d3) :
    W (Nx (Inv ns)) (g_law_17 [some (.fz (.scr ns)), some (.ow false (.lst h)), z2, some (.fz (.str w)), some (.fz (.tup (xs.map D.int))), some (.ow false (.lst (rs.map D.int))), z6, z7, z8, z9, some (.ow false (.lst [])), some (.ow false (.lst [d0, d1, d2, d3])), z12, none]) := by
  have hw := okName_low hl hl1 hl8
  simp [g_law_17, g_law_18, take_eq]
  refine draw H (by decide) (by decide) fun v h1 ρ1 H1 v0 v1 => ?_
  by_cases e0 : v = 0
  · simp [e0]
    have a1 := addS (x := w) (y := "abcdefgh") (by rw [len8]; omega)
    have a2 := slcS (x := w) (lo := some 1) (hi := none) (by omega)
    have a3 := addS (x := "A") (y := cutS w (some 1) none) (by rw [lenA, tail_len hl1]; omega)
    simp [a1, a2, a3]
    refine draw H1 (by decide) (by decide) fun v2 h2 ρ2 H2 v20 v21 => ?_
    have bn := badName hl hl1 hl8
    obtain ⟨d, ed, hd⟩ : ∃ d, atI [D.non, .str "", .str (w ++ "abcdefgh"), .str ("A" ++ cutS w (some 1) none), .int 3] v2 = some d ∧ d ∈ [D.non, .str "", .str (w ++ "abcdefgh"), .str ("A" ++ cutS w (some 1) none), .int 3] := at_some v20 v21
    have q := bn d hd
    simp [ed]
    exact w19 (b0 := true) H2 hx hr hw ⟨.inr ⟨rfl, q.1⟩, q.2, P.h1, P.p1, P.h2, P.p2, P.h3, P.p3⟩
  · simp [e0]
    exact w19 (b0 := false) H1 hx hr hw P
end
end K03
end
noncomputable section
set_option maxHeartbeats 4000000
namespace K03
open PySem PySem.Spec L2 DL

theorem len_ge : ∀ (ks xs : List Int), ks.Nodup → (∀ k ∈ ks, k ∈ xs) → ks.length ≤ xs.length
  | [], _, _, _ => Nat.zero_le _
  | k :: ks, xs, nd, h => by
    have hk := h k (List.mem_cons_self ..)
    have nd' := List.nodup_cons.mp nd
    have := len_ge ks (xs.erase k) nd'.2 fun j hj => (List.mem_erase_of_ne (fun e => nd'.1 (by rw [← e]; exact hj))).mpr (h j (List.mem_cons_of_mem _ hj))
    have l := List.length_erase_of_mem hk
    have : 0 < xs.length := List.length_pos_of_mem hk
    simp only [List.length_cons]; omega
def restOf (xs : List Int) : List Int := ([0, 1, 2, 3, 4, 5] : List Int).filter fun k => !decide (k ∈ xs)
theorem rst_of {xs : List Int} (hx : Nou xs) : Rst xs (restOf xs) := by
  refine ⟨?_, List.length_filter_le _ _, fun r hr => ?_⟩
  · rcases Nat.eq_zero_or_pos (restOf xs).length with e | e
    · exfalso
      have e := List.eq_nil_of_length_eq_zero e
      have : ∀ k ∈ ([0, 1, 2, 3, 4, 5] : List Int), k ∈ xs := fun k hk => by
        have := List.filter_eq_nil_iff.mp e k hk
        simpa using this
      have := len_ge _ _ (by decide) this
      have := hx.l
      simp at *; omega
    · exact e
  · obtain ⟨h1, h2⟩ := List.mem_filter.mp hr
    refine ⟨by simpa using h2, ?_⟩
    have : ∀ r ∈ ([0, 1, 2, 3, 4, 5] : List Int), 0 ≤ r ∧ r ≤ 5 := by decide
    exact this r h1
section
variable {w : Str} {xs rs : List Int} {ns : List Int} {h : List D} {c a : D}
theorem rest_loop {z0 z1 z2 z3 z5 z6 z7 z8 z9 z10 z11 z12 : Option SV} (hm : Sm xs) : ∀ (ks acc : List Int), acc.length + ks.length ≤ 1000 → compL (tgN 13) (cB (eOp ninD (eN 13) (eN 4))) (eN 13) [13] (ks.map D.int) (acc.map D.int) [z0, z1, z2, z3, some (.fz (.tup (xs.map D.int))), z5, z6, z7, z8, z9, z10, z11, z12, none] = .ok ((acc ++ ks.filter fun k => !decide (k ∈ xs)).map D.int) [z0, z1, z2, z3, some (.fz (.tup (xs.map D.int))), z5, z6, z7, z8, z9, z10, z11, z12, none]
  | [], acc, _ => by simp
  | k :: ks, acc, hl => by
    simp only [List.length_cons] at hl
    have e := din_ints k hm
    have hs : acc.length < sizeLine := szk' (by omega)
    rw [List.map_cons, compL]
    by_cases hk : k ∈ xs
    · rw [decide_eq_true hk] at e
      have := rest_loop (z0 := z0) (z1 := z1) (z2 := z2) (z3 := z3) (z5 := z5) (z6 := z6) (z7 := z7) (z8 := z8) (z9 := z9) (z10 := z10) (z11 := z11) (z12 := z12) hm ks acc (by omega)
      simp [ninD, e, hk, this]
    · rw [decide_eq_false hk] at e
      have := rest_loop (z0 := z0) (z1 := z1) (z2 := z2) (z3 := z3) (z5 := z5) (z6 := z6) (z7 := z7) (z8 := z8) (z9 := z9) (z10 := z10) (z11 := z11) (z12 := z12) hm ks (acc ++ [k]) (by simp; omega)
      simp only [List.map_append, List.map_cons, List.map_nil, List.append_assoc] at this
      simp [ninD, e, hk, this, hs]
theorem own_fr {w w' : Str} {xs ys : List Int} {c a c' a' : D} {b1 b2 neg : Bool} {tys : List String} (h1 : Sm xs) (h2 : Sm ys) (hc : eqD c c' = some (.fz (.bl b1))) (ha : eqD a a' = some (.fz (.bl b2))) :
    ownEqD "Frame" neg m_Frameq_eqq tys [] (frD w xs c a) (frD w' ys c' a') = some (.fz (.bl (((decide (w = w') && decide (xs = ys)) && (b1 && b2)) != neg))) := by
  have e := eq_ev (w := w) (w' := w') h1 h2 hc ha
  unfold frD at e ⊢
  simp [ownEqD, eqAsk, e]
theorem own_tup {w : Str} {xs : List Int} {c a : D} {ds : List D} {neg : Bool} : ownEqD "Frame" neg m_Frameq_eqq ["NoneType", "bool", "int", "str", "tuple"] [] (frD w xs c a) (.tup ds) = some (.fz (.bl (false != neg))) := by
  have e := eq_tup (w := w) (xs := xs) (c := c) (a := a) (ds := ds)
  unfold frD at e ⊢
  simp [ownEqD, eqAsk, tyD, e]
/-- what is known when the first frame is told -/
theorem w15 {z2 z8 z9 z10 z11 z12 : Option SV} (H : Hok h) (hx : Nou xs) (hr : Rst xs rs) (hl : low w) (hl1 : 1 ≤ w.length) (hl8 : w.length ≤ 8) (hc : okC xs c) (ha : okA xs a) :
    W (Nx (Inv ns)) (g_law_15 [some (.fz (.scr ns)), some (.ow false (.lst h)), z2, some (.fz (.str w)), some (.fz (.tup (xs.map D.int))), some (.ow false (.lst (rs.map D.int))), some (.fz c), some (.fz a), z8, z9, z10, z11, z12, none]) := by
  simp [g_law_15, g_law_16]
  refine w17 H hx hr hl hl1 hl8 ⟨.inl ⟨rfl, rfl⟩, ⟨rfl, by show w.length ≤ 100; omega, fine_str (low_ok hl) (by omega)⟩, .inl ⟨rfl, rfl⟩, ?_, .inl ⟨rfl, hc⟩, ?_, .inl ⟨rfl, ha⟩, ?_⟩
  · exact fine_lst (k := 0) (m := 1) (l := 10) hx.fine (by have := hx.l; simp; omega) (by decide)
  · rcases hc with rfl | ⟨i, rfl, i0, i5, _⟩
    · exact fine_non
    · exact fineI1 ⟨i0, i5⟩
  · rcases ha with rfl | ⟨i, rfl, hi⟩
    · exact fine_non
    · exact fineI1 (hx.b i hi)
end
end K03
end
noncomputable section
set_option maxHeartbeats 4000000
namespace K03
open PySem PySem.Spec L2 DL

theorem cutD_1 {α : Type} (f : α → D) {xs : List α} (h : 1 ≤ xs.length) : cutD (xs.map f) (some 1) none = (xs.drop 1).map f := by
  unfold cutD
  rw [List.length_map, sIx_1 h, HT.sIx_none, ← List.map_drop, List.take_of_length_le]
  rw [List.length_map, List.length_drop]; exact Nat.le_refl _
theorem frD_fold {w : Str} {xs : List Int} {c a : D} : D.ins "Frame" (fr (.str w) (xs.map D.int) c a) = frD w xs c a := rfl
theorem okName_sm {w : Str} (h : w.length ≤ 8) : smName (.str w) := by show w.length ≤ 100; omega
theorem make_fr {w : Str} {xs : List Int} {c a d : D} (hx : Nou xs) (hw : okName (.str w) = true) (h8 : w.length ≤ 8) (hd : d = .lst (xs.map D.int) ∨ d = .tup (xs.map D.int)) (hc : okC xs c) (ha : okA xs a) :
    m_Frameq_initq [.ow true (.ob "Frame" []), .fz (.str w), .fz d, .fz c, .fz a] = .ok (.fz .non) [some (.ow true (.ob "Frame" (fr (.str w) (xs.map D.int) c a))), some (.fz (.str w)), some (.fz d), some (.fz c), some (.fz a)] :=
  init_ok rfl (okName_sm h8) hw (hx.ok hd) (by rcases hd with rfl | rfl <;> rfl) hx.sm hc ha
theorem len2 : ("ab" : Str).length = 2 := by decide +kernel
theorem low2 : low "ab" := by
  have : ((TL.tl ("ab" : Str)).all fun c => decide (97 ≤ c ∧ c ≤ 122)) = true := by decide +kernel
  intro c hc
  exact of_decide_eq_true (List.all_eq_true.mp this c hc)
theorem eqS_ne {x y : Str} (h : x.length ≠ y.length) : decide (x = y) = false := decide_eq_false fun e => h (by rw [e])
theorem Nou.drop {xs : List Int} (hx : Nou xs) (h : 1 < xs.length) : Nou (xs.drop 1) := ⟨hx.ri.sublist (List.drop_sublist _ _), fun x hm => hx.b x (List.mem_of_mem_drop hm), by have := hx.l; simp only [List.length_drop]; omega⟩
section
variable {w : Str} {xs rs : List Int} {ns : List Int} {h : List D} {c a : D}
theorem okA_non {xs : List Int} : okA xs .non := .inl rfl
theorem okC_non {xs : List Int} : okC xs .non := .inl rfl
theorem lenT1 {xs : List Int} : lenD (.tup (xs.map D.int)) = some (.fz (.int xs.length)) := by simp
theorem ne_bl (b1 b2 : Bool) : neD (.bl b1) (.bl b2) = some (.fz (.bl (b1 != b2))) := by cases b1 <;> cases b2 <;> rfl
theorem and_sem {f g : ESem} {ρ : DL.Env} {b1 b2 : Bool} (h1 : f ρ = .ok (.fz (.bl b1)) ρ) (h2 : g ρ = .ok (.fz (.bl b2)) ρ) : eAnd f g ρ = .ok (.fz (.bl (b1 && b2))) ρ := by
  cases b1 <;> simp [h1, h2]
section
variable {z2 z9 z10 z11 z12 : Option SV} (H : Hok h) (hx : Nou xs) (hr : Rst xs rs) (hl : low w) (hl1 : 1 ≤ w.length) (hl8 : w.length ≤ 8) (hc : okC xs c) (ha : okA xs a)
include H hx hr hl hl1 hl8 hc ha
theorem w14 : W (Nx (Inv ns)) (g_law_14 [some (.fz (.scr ns)), some (.ow false (.lst h)), z2, some (.fz (.str w)), some (.fz (.tup (xs.map D.int))), some (.ow false (.lst (rs.map D.int))), some (.fz c), some (.fz a), some (.fz (.tup [.str "good", frD w xs c a])), some (.fz (frD w xs .non .non)), z10, z11, z12, none]) := by
  have hw := okName_low hl hl1 hl8
  have l1 := hx.l
  by_cases h1 : 1 < xs.length
  · have hy := hx.drop h1
    have m1 := make_fr (c := .non) (a := .non) hy hw hl8 (.inr rfl) okC_non okA_non
    have cut := cutD_1 D.int l1.1
    have q1 := own_fr (w := w) (w' := w) (xs := xs) (ys := xs.drop 1) (neg := false) (tys := ["NoneType", "bool", "int", "str", "tuple"]) hx.sm hy.sm eqD_non eqD_non
    have ne : decide (xs = xs.drop 1) = false := decide_eq_false fun e => by
      have := congrArg List.length e
      rw [List.length_drop] at this; omega
    rw [ne] at q1
    have h1' : (1 : Int) < xs.length := by omega
    simp only [Bool.and_false, Bool.false_and] at q1
    simp [-List.drop_one, -List.map_tail, -List.map_drop, g_law_14, h1', slcD, cut, m1, frD_fold, q1]
    exact w15 H hx hr hl hl1 hl8 hc ha
  · have h1' : ¬ (1 : Int) < xs.length := by omega
    simp [g_law_14, h1']
    exact w15 H hx hr hl hl1 hl8 hc ha
theorem w13 : W (Nx (Inv ns)) (g_law_13 [some (.fz (.scr ns)), some (.ow false (.lst h)), z2, some (.fz (.str w)), some (.fz (.tup (xs.map D.int))), some (.ow false (.lst (rs.map D.int))), some (.fz c), some (.fz a), some (.fz (.tup [.str "good", frD w xs c a])), some (.fz (frD w xs .non .non)), z10, z11, z12, none]) := by
  have ln : lenD (.str w) = some (.fz (.int w.length)) := by simp only [lenD]; rw [if_pos (szk (by omega))]
  have sl := slcS (x := w) (lo := some 1) (hi := none) (by omega)
  have lt := tail_len hl1
  have lo := low_tail hl hl1
  by_cases h1 : (w.length : Int) < 8
  · have e : (cutS w (some 1) none ++ ("ab" : Str)).length = w.length + 1 := by rw [Str.length_append, len2]; omega
    have hw := okName_low (low_app lo low2) (by omega) (by omega)
    have a1 := addS (x := cutS w (some 1) none) (y := "ab") (by rw [len2]; omega)
    have m1 := make_fr (c := .non) (a := .non) hx hw (by omega) (.inr rfl) okC_non okA_non
    have q1 := own_fr (w := w) (w' := cutS w (some 1) none ++ ("ab" : Str)) (xs := xs) (ys := xs) (neg := false) (tys := ["NoneType", "bool", "int", "str", "tuple"]) hx.sm hx.sm eqD_non eqD_non
    rw [eqS_ne (by omega)] at q1
    simp only [Bool.and_false, Bool.false_and] at q1
    simp [g_law_13, ln, h1, sl, a1, m1, frD_fold, q1]
    exact w14 H hx hr hl hl1 hl8 hc ha
  · have hw := okName_low lo (by omega) (by omega)
    have m1 := make_fr (c := .non) (a := .non) hx hw (by omega) (.inr rfl) okC_non okA_non
    have q1 := own_fr (w := w) (w' := cutS w (some 1) none) (xs := xs) (ys := xs) (neg := false) (tys := ["NoneType", "bool", "int", "str", "tuple"]) hx.sm hx.sm eqD_non eqD_non
    rw [eqS_ne (by omega)] at q1
    simp only [Bool.and_false, Bool.false_and] at q1
    simp [g_law_13, ln, h1, sl, m1, frD_fold, q1]
    exact w14 H hx hr hl hl1 hl8 hc ha
theorem w12 : W (Nx (Inv ns)) (g_law_12 [some (.fz (.scr ns)), some (.ow false (.lst h)), z2, some (.fz (.str w)), some (.fz (.tup (xs.map D.int))), some (.ow false (.lst (rs.map D.int))), some (.fz c), some (.fz a), some (.fz (.tup [.str "good", frD w xs c a])), some (.fz (frD w xs .non .non)), z10, z11, z12, none]) := by
  have hw := okName_low hl hl1 hl8
  have m2 := make_fr hx hw hl8 (.inl rfl) hc ha
  have q2 := own_fr (w := w) (w' := w) (xs := xs) (ys := xs) (neg := true) (tys := ["NoneType", "bool", "int", "str", "tuple"]) hx.sm hx.sm (eq_opt hc.opt) (eq_opt ha.opt)
  have q3 := own_tup (w := w) (xs := xs) (c := c) (a := a) (ds := xs.map D.int) (neg := false)
  simp only [decide_true, Bool.and_self, bne_self_eq_false] at q2 q3
  simp [g_law_12, m2, frD_fold, q2, q3]
  exact w13 H hx hr hl hl1 hl8 hc ha
theorem w11 : W (Nx (Inv ns)) (g_law_11 [some (.fz (.scr ns)), some (.ow false (.lst h)), z2, some (.fz (.str w)), some (.fz (.tup (xs.map D.int))), some (.ow false (.lst (rs.map D.int))), some (.fz c), some (.fz a), some (.fz (.tup [.str "good", frD w xs c a])), some (.fz (frD w xs .non .non)), z10, z11, z12, none]) := by
  obtain ⟨ρ2, e2⟩ := shows_k (w := w) hx (okC_non (xs := xs)) (okA_non (xs := xs))
  have q1 := own_fr (w := w) (w' := w) (xs := xs) (ys := xs) (neg := false) (tys := ["NoneType", "bool", "int", "str", "tuple"]) hx.sm hx.sm (eq_plain hc.opt) (eq_plain ha.opt)
  simp only [decide_true, Bool.and_self, Bool.true_and, Bool.bne_false] at q1
  have s : ∀ b1 b2 : Bool, neD (.bl b1) (.bl b2) = some (.fz (.bl (b1 != b2))) := ne_bl
  cases e3 : c.isNon <;> cases e4 : a.isNon <;> simp [g_law_11, e2, q1, e3, e4, ne_bl] <;> exact w12 H hx hr hl hl1 hl8 hc ha
theorem w9 : W (Nx (Inv ns)) (g_law_9 [some (.fz (.scr ns)), some (.ow false (.lst h)), z2, some (.fz (.str w)), some (.fz (.tup (xs.map D.int))), some (.ow false (.lst (rs.map D.int))), some (.fz c), some (.fz a), some (.fz (.tup [.str "good", frD w xs c a])), z9, z10, z11, z12, none]) := by
  have hw := okName_low hl hl1 hl8
  obtain ⟨ρ1, e1⟩ := shows_k (w := w) hx hc ha
  have m1 := make_fr (c := .non) (a := .non) hx hw hl8 (.inr rfl) okC_non okA_non
  simp [g_law_9, e1, g_law_10, m1, frD_fold]
  exact w11 H hx hr hl hl1 hl8 hc ha
end
end
end K03
end
noncomputable section
set_option maxHeartbeats 4000000
namespace K03
open PySem PySem.Spec L2 DL

@[simp] theorem x_eLcR {rg : List D → Option (Int × Int)} {args : List ESem} {tg : Tg1} {tt : CSem} {el : ESem} {vs : List Nat} {ρ : DL.Env} : eLcR rg args tg tt el vs ρ = (eL args ρ).bind fun ds ρ1 => match rg ds with
  | some (i, j) => if smallR i j = true then (compR tg tt el vs (rangeD i j) ρ1).nox.bind fun acc ρ2 => .ok (.fr (.lst acc)) ρ2 else .no
  | none => .no := (rfl)
@[simp] theorem x_rngOf1 {j : Int} : rngOf1 [.int j] = some (0, j) := (rfl)
@[simp] theorem x_eLstRg {rg : List D → Option (Int × Int)} {args : List ESem} {ρ : DL.Env} : eLstRg rg args ρ = (eL args ρ).bind fun ds ρ1 => match rg ds with
  | some (i, j) => if okRg i j = true then .ok (.fr (.lst (rangeD i j))) ρ1 else .no
  | none => .no := (rfl)
theorem okRg6 : okRg 0 6 = true := by decide +kernel
theorem smR6 : smallR 0 6 = true := by decide +kernel
theorem smR4 : smallR 0 4 = true := by decide +kernel
@[simp] theorem x_sForR {rg : List D → Option (Int × Int)} {args : List ESem} {tg : D → DL.Env → Option DL.Env} {b : SSem} {ρ : DL.Env} : sForR rg args tg b ρ = (eL args ρ).sbind fun ds ρ1 => match rg ds with
  | some (i, j) => if smallR i j = true then forL tg b (rangeD i j) ρ1 else .no
  | none => .no := (rfl)
section
variable {w : Str} {xs rs : List Int} {ns : List Int} {h : List D} {c a : D}
section
variable {z2 z3 z4 z5 z6 z7 z8 z9 z10 z11 z12 : Option SV} (H : Hok h) (hl : low w) (hl1 : 1 ≤ w.length) (hl8 : w.length ≤ 8)
include H hl hl1 hl8
theorem w8 (hx : Nou xs) (hr : Rst xs rs) (hc : okC xs c) (ha : okA xs a) : W (Nx (Inv ns)) (g_law_8 [some (.fz (.scr ns)), some (.ow false (.lst h)), z2, some (.fz (.str w)), some (.fz (.tup (xs.map D.int))), some (.ow false (.lst (rs.map D.int))), some (.fz c), some (.fz a), z8, z9, z10, z11, z12, none]) := by
  have hw := okName_low hl hl1 hl8
  have t1 := told_ok (n := .str w) (ns := .lst (xs.map D.int)) rfl (okName_sm hl8) hw (hx.ok (.inl rfl)) rfl hx.sm hc ha
  have t2 := told_ok (n := .str w) (ns := .tup (xs.map D.int)) rfl (okName_sm hl8) hw (hx.ok (.inr rfl)) rfl hx.sm hc ha
  rw [frD_fold] at t1 t2
  simp [g_law_8]
  refine cw (asList_s H) ?_
  rintro _ _ ⟨h1, ρ1, (rfl | rfl), rfl, H1⟩
  · simp [t1]
    exact w9 H1 hx hr hl hl1 hl8 hc ha
  · simp [t2]
    exact w9 H1 hx hr hl hl1 hl8 hc ha
theorem w7 (hx : Nou xs) (hr : Rst xs rs) (hc : okC xs c) : W (Nx (Inv ns)) (g_law_7 [some (.fz (.scr ns)), some (.ow false (.lst h)), z2, some (.fz (.str w)), some (.fz (.tup (xs.map D.int))), some (.ow false (.lst (rs.map D.int))), some (.fz c), z7, z8, z9, z10, z11, z12, none]) := by
  simp [g_law_7, take_eq]
  refine draw H (by decide) (by decide) fun v h1 ρ1 H1 v0 v1 => ?_
  by_cases e0 : v = 0
  · simp [e0]
    exact w8 H1 hl hl1 hl8 hx hr hc (.inl rfl)
  · simp [e0]
    have l := hx.l
    refine draw H1 (by omega) (by omega) fun v3 h3 ρ3 H3 v30 v31 => ?_
    have hj : v3.toNat < xs.length := by omega
    have ea := atI_map (c := xs[v3.toNat]) v30 v31 (List.getElem?_eq_getElem hj)
    simp [ea]
    exact w8 H3 hl hl1 hl8 hx hr hc (.inr ⟨_, rfl, List.getElem_mem hj⟩)
theorem w6 (hx : Nou xs) (hr : Rst xs rs) : W (Nx (Inv ns)) (g_law_6 [some (.fz (.scr ns)), some (.ow false (.lst h)), z2, some (.fz (.str w)), some (.fz (.tup (xs.map D.int))), some (.ow false (.lst (rs.map D.int))), z6, z7, z8, z9, z10, z11, z12, none]) := by
  simp [g_law_6, take_eq]
  refine draw H (by decide) (by decide) fun v h1 ρ1 H1 v0 v1 => ?_
  by_cases e0 : v = 0
  · simp [e0]
    exact w7 H1 hl hl1 hl8 hx hr (.inl rfl)
  · simp [e0]
    have l := hr.1
    have l' := hr.2.1
    refine draw H1 (by omega) (by omega) fun v3 h3 ρ3 H3 v30 v31 => ?_
    have hj : v3.toNat < rs.length := by omega
    have ea := atI_map (c := rs[v3.toNat]) v30 v31 (List.getElem?_eq_getElem hj)
    have q := hr.2.2 _ (List.getElem_mem hj)
    simp [ea]
    exact w7 H3 hl hl1 hl8 hx hr (.inr ⟨_, rfl, q.2.1, q.2.2, q.1⟩)
theorem w5 (hx : Nou xs) : W (Nx (Inv ns)) (g_law_5 [some (.fz (.scr ns)), some (.ow false (.lst h)), z2, some (.fz (.str w)), some (.fz (.tup (xs.map D.int))), z5, z6, z7, z8, z9, z10, z11, z12, none]) := by
  have rl := rest_loop (z0 := some (.fz (.scr ns))) (z1 := some (.ow false (.lst h))) (z2 := z2) (z3 := some (.fz (.str w))) (z5 := z5) (z6 := z6) (z7 := z7) (z8 := z8) (z9 := z9) (z10 := z10) (z11 := z11) (z12 := z12) hx.sm [0, 1, 2, 3, 4, 5] [] (by decide)
  rw [List.nil_append, List.map_nil, ← range6] at rl
  simp [g_law_5, smR6, rl]
  exact w6 H hl hl1 hl8 hx (rst_of hx)
theorem w4 : W (Nx (Inv ns)) (g_law_4 [some (.fz (.scr ns)), some (.ow false (.lst h)), z2, some (.fz (.str w)), z4, z5, z6, z7, z8, z9, z10, z11, z12, none]) := by
  simp [g_law_4, some_eq, take_eq, okRg6, range6]
  refine draw H (by decide) (by decide) fun v h1 ρ1 H1 v0 v1 => ?_
  simp
  refine cw (some_s (ns := [0, 1, 2, 3, 4, 5]) H1 (by rfl) (by decide) (by decide) (by omega) (by simp; omega)) ?_
  rintro _ _ ⟨xs, h2, ρ2, rfl, rfl, H2, q1, q2, q3⟩
  simp
  refine w5 H2 hl hl1 hl8 ⟨q1, fun x hx => ?_, by omega⟩
  have : ∀ r ∈ ([0, 1, 2, 3, 4, 5] : List Int), 0 ≤ r ∧ r ≤ 5 := by decide
  exact this x (q2 x hx)
end
theorem w3 {z2 z3 z4 z5 z6 z7 z8 z9 z10 z11 z12 : Option SV} (H : Hok h) : W (Nx (Inv ns)) (g_law_3 [some (.fz (.scr ns)), some (.ow false (.lst h)), z2, z3, z4, z5, z6, z7, z8, z9, z10, z11, z12, none]) := by
  simp [g_law_3, word_eq]
  refine cw (word_s H (by decide) (by decide)) ?_
  rintro _ _ ⟨w, h1, ρ1, rfl, rfl, H1, lw, w1, w8⟩
  simp
  exact w4 H1 lw w1 (by omega)
end
theorem pure_law : ∀ ns : List Int, ns.length ≤ 63 → ∃ ρ, m_law [.fz (.scr ns)] = .ok (.fz (.bl true)) ρ := by
  intro ns hn
  suffices h : Gv (m_law [.fz (.scr ns)]) fun r _ => r = .fz (.bl true) by
    obtain ⟨r, ρ, e, rfl⟩ := h; exact ⟨ρ, e⟩
  refine run_w ?_
  obtain ⟨h0, ρ0, e0, H0⟩ := hand_ok ns hn
  simp [g_law, g_law_1, g_law_2, hand_eq, envOf, e0, smR4]
  refine for_w (I := Inv ns) (inv_mk H0) ?_ ?_
  · rintro d ρ ⟨h, z2, z3, z4, z5, z6, z7, z8, z9, z10, z11, z12, H, rfl⟩
    exact ⟨_, rfl, w3 H⟩
  · rintro ρ ⟨h, z2, z3, z4, z5, z6, z7, z8, z9, z10, z11, z12, H, rfl⟩
    simp
end K03
end
noncomputable section
set_option maxHeartbeats 0
namespace K03
open PySem PySem.Spec L2 DL
abbrev RR : PySem.W.OpenRow := PySem.W.OpenLaw.row PySem.Challenge.rw_looseorder_k03_frames_of_verbs
abbrev hk : PySem.W.Hook := hookF 6 fs ds
def ob (s : PySem.W.SharedT) : AlF := obsFG 6 fs ds (HandSHeadRun.getT s)
theorem ob_eq (s : PySem.W.SharedT) : ob s = hk.obs s.abs := obsFG_eq (HandSHeadRun.getT_eq s)
def looseN : List Str := ["TongueError", "BadStock", "BadFrame", "LETTERS", "is_whole", "has_letters", "is_name", "MOST_ROLES", "LONGEST_NAME", "MOST_NOUNS", "check_nouns", "Frame", "_law_hand", "_law_mixed", "_law_take", "_law_shuffled", "_law_some", "_law_word", "_law_as_list", "_law_no_role", "_law_told", "_law_shows", "_law_no_nouns"]
theorem run (w : World) : HandSHeadRun.RunEq RR (PySem.W.view RR.prog [27]) hk ob 4000 looseN w := by
  intro os
  kernel_rfl
end K03
open PySem PySem.W PySem.Calls PyProof.Rows
theorem PySem.Challenge.cw_looseorder_k03_frames_of_verbs_holds : PySem.Challenge.rw_looseorder_k03_frames_of_verbs.Holds := by
  w_on; o_law
  refine HandSHeadRun.head_any (r := OpenLaw.row PySem.Challenge.rw_looseorder_k03_frames_of_verbs) (q := view (OpenLaw.row PySem.Challenge.rw_looseorder_k03_frames_of_verbs).prog [27]) (H := K03.hk) (ob := K03.ob) (M := 4000) (loose := K03.looseN) (d := HandSHeadRun.topDef (OpenLaw.row PySem.Challenge.rw_looseorder_k03_frames_of_verbs).prog 27) (kwd := []) K03.ob_eq
    (by kernel_rfl) (fun s => by kernel_rfl) K03.run (by kernel_rfl) (by kernel_rfl) (by kernel_rfl) (by rfl) (by first | assumption | decide +kernel) (by decide +kernel) ⟨rfl, rfl, rfl, rfl, rfl, by decide +kernel⟩ ?hw ?hc
  case hw => w_witness2
  case hc =>
    refine DL.walk_G (l := PySem.Challenge.rw_looseorder_k03_frames_of_verbs) (n := 63) (k := 7) (x := "_law_script") rfl (by decide) (by kernel_rfl) ⟨rfl, by decide, by decide⟩ ?G (fun w H s e s' z => DL.cx_false z)
    intro w mg fa h Y G hmg0
    obtain ⟨K, KX, c⟩ := Y
    have T : DL.Tx K03.fs K03.ds K mg := ⟨c, h, KX, G⟩
    have hmg : mg ("law" : PySem.Str) = some (.ref fa) := by
      have e : (HandSHeadRun.topDef (OpenLaw.row PySem.Challenge.rw_looseorder_k03_frames_of_verbs).prog 27).name = ("law" : PySem.Str) := by kernel_rfl
      rw [← e]
      exact hmg0
    have e := hmg.symm.trans (T.glo (x := "law") 73 rfl)
    injection e with e; injection e with e; subst e
    obtain ⟨fd, hF, _, _, hb⟩ := K03.ok_law (w := w) T
    exact ⟨K, fd, _, KX, hb, DL.law_sp K03.pure_law, fun base _ _ =>  hF base⟩
end
