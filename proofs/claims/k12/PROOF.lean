import PyProof.Rows.All
import Wide.All
import OpenK.AllK
import Wide.FinOn
import HandS.ForMost
import HandS.Exc
import HandS.ExcOwn
import HandS.WordsExc
import KE.KDictKeyed
import KE.KeyNested
import HandS.Lambda
import KE.DataEq
import HandS.TupAny
import HandS.IsInst
import HandS.Flow
import HandS.Style
import HandS.Wide
import HandS.Zip
import KE.GoesEnum
import HandS.Comp
import HandS.AnyAll
import HandS.GenOver
import PyProof.GenQ
import HandS.GenCall
import HandS.GenList
import KE.KMinKey
import HandS.SortKw
import HandS.Flt
import HandS.HeadHook4
import HandS.HeadWalk
import HandS.Defaults
import HandS.Head0
import HandS.Head1
import HandS.Head2
import HandS.HeadEnd
import HandS.EndTab
import PySem.Challenge.RW_liarpost_k12_whatever_the_question
set_option Elab.async false
set_option linter.all false
set_option maxRecDepth 100000
set_option maxHeartbeats 4000000
/-! D-level: values as plain data, a world of slots and stored objects, what a value and a heap have to do with them. -/
namespace Dl
open PySem PySem.Spec PyProof.Rows L2

/-- plain data; dct t: a dict (t: its keys are tuples; else ints and texts); scr: the script's list; ob n: the n-th stored object; fn a: a def of the module -/
inductive D where
  | non | bl (b : Bool) | int (i : Int) | str (x : Str)
  | tup (ds : List D) | lst (ds : List D) | dct (t : Bool) (ks : List (D × D))
  | scr (ns : List Int) | ob (n : Nat) | fn (a : Addr)
  deriving Inhabited

/-- a stored object: a list, a dict, an instance of the class of this number -/
inductive SO where
  | lst (ds : List D) | dct (t : Bool) (ks : List (D × D)) | ins (c : Nat) (fs : List (Str × D))
  deriving Inhabited

/-- an error: its class, its field -/
structure Err where
  cls : Nat
  arg : Option D
  deriving Inhabited

/-- the slots (own: the slot alone holds this list or dict), the stored objects -/
structure W where
  sl : List (Option (Bool × D))
  st : List SO
  deriving Inhabited

inductive R (α : Type) where
  | ok (a : α) (w : W) | exc (x : Err) (w : W) | bad
abbrev M (α : Type) := W → R α
def R.andThen {α β : Type} (r : R α) (f : α → M β) : R β := match r with
  | .ok a w => f a w
  | .exc x w => .exc x w
  | .bad => .bad
def M.ret {α : Type} (a : α) : M α := fun w => .ok a w
def M.bnd {α β : Type} (m : M α) (f : α → M β) : M β := fun w => (m w).andThen f
def M.no {α : Type} : M α := fun _ => .bad
def M.opt {α : Type} : Option α → M α
  | some a => M.ret a
  | none => M.no
@[simp] theorem andThen_ok {α β : Type} (a : α) (w : W) (f : α → M β) : (R.ok a w).andThen f = f a w := rfl
@[simp] theorem andThen_exc {α β : Type} (x : Err) (w : W) (f : α → M β) : (R.exc x w : R α).andThen f = .exc x w := rfl
@[simp] theorem andThen_bad {α β : Type} (f : α → M β) : (R.bad : R α).andThen f = .bad := rfl
@[simp] theorem bnd_ap {α β : Type} (m : M α) (f : α → M β) (w : W) : M.bnd m f w = (m w).andThen f := rfl
@[simp] theorem ret_ap {α : Type} (a : α) (w : W) : M.ret a w = .ok a w := rfl
@[simp] theorem no_ap {α : Type} (w : W) : (M.no : M α) w = .bad := rfl
@[simp] theorem opt_some {α : Type} (a : α) : M.opt (some a) = M.ret a := rfl
@[simp] theorem opt_none {α : Type} : M.opt (none : Option α) = M.no := rfl

/-- how control leaves a statement -/
inductive Fl where
  | nx | bk | ct | rt (d : D)

/-! ### what a value stands for -/
/-- keys that are ints or texts -/
def keyK : D → Option Key
  | .int i => some (.inl i)
  | .str x => some (.inr x)
  | _ => none
def keysK : List D → Option (List Key)
  | [] => some []
  | d :: ds => match keyK d, keysK ds with
    | some k, some ks => some (k :: ks)
    | _, _ => none
/-- what stays through a whole law: the world, the tables of code objects, the classes by their numbers -/
structure Gm where
  w : World
  T : List Addr
  cl : Nat → Addr
  fld : Nat → Str
  K : PySem.W.Frag
/-- the script's list at a: tracked (locked or not), or an object of the head's -/
def ScrAt (K : PySem.W.Frag) (F : Hp) (a : Addr) (ns : List Int) : Prop := ((∃ o, F a = some (.frz o (.lst (ns.map V.int)))) ∨ F a = some (.lst (ns.map V.int))) ∨
  ∃ (o : Obj) (its : Array Value) (n : Nat), K.lookup a = some o ∧ o.cls = .type "list" ∧ o.dict = none ∧ o.data = .seq its n ∧ its.size ≤ sizeLine ∧ Vals (ns.map V.int) its.toList
theorem ScrAt.mono {K : PySem.W.Frag} {F F' : Hp} {a : Addr} {ns : List Int} (h : ScrAt K F a ns) (l : ∀ a o, F a = some o → F' a = some o) : ScrAt K F' a ns := by
  rcases h with (⟨o, h⟩ | h) | h
  · exact .inl (.inl ⟨o, l _ _ h⟩)
  · exact .inl (.inr (l _ _ h))
  · exact .inr h
/- keys that are tuples, nested -/
mutual
def nkey : D → Option NestedKey
  | .non => some .none
  | .bl b => some (.num (if b = true then 1 else 0))
  | .int i => some (.num i)
  | .str x => some (.text x)
  | .tup ds => (nkeys ds).map .tup
  | _ => none
def nkeys : List D → Option (List NestedKey)
  | [] => some []
  | d :: ds => match nkey d, nkeys ds with
    | some k, some ks => some (k :: ks)
    | _, _ => none
end
/-- a dict whose keys are tuples: the keys, where they stand, the values -/
def dN (w : World) (a : Addr) (xs : List (NestedKey × Addr × V)) : HO := .ext fun h => (a == sysModules) = false ∧ xs.length ≤ sizeLine ∧ ∃ ys : List (NestedKey × Addr × Value),
  Paired (fun (x : NestedKey × Addr × V) (y : NestedKey × Addr × Value) => x.1 = y.1 ∧ x.2.1 = y.2.1 ∧ RelV x.2.2 y.2.2) xs ys ∧
  ∃ o es ep, h.get? a = some o ∧ o.ExactDict ∧ o.data = .dict es ep ∧ es.toList = ys.map (fun y => (⟨y.1.hash w, .ref y.2.1, y.2.2⟩ : DictEntry)) ∧ (ys.map (·.1)).Nodup
/-- a key of a dict: itself as a value of the heap; tuples to depth 8 -/
def nkeyT (d : D) : Option NestedKey := match d with
  | .tup _ => (nkey d).bind fun k => if k.depth ≤ 8 then some k else none
  | _ => none
/-- what stands at a dict's address a: its keys and values -/
def KD (g : Gm) (a : Addr) (o : HO) (t : Bool) (ks : List D) (ps : List (V × V)) : Prop := match t with
  | false => ∃ kvs : List (Key × V), o = .dK kvs ∧ ks.map keyK = kvs.map (fun p => some p.1) ∧ ps = kvs.map fun p => (kV p.1, p.2)
  | true => ∃ xs : List (NestedKey × Addr × V), o = dN g.w a xs ∧ ks.map nkeyT = xs.map (fun p => some p.1) ∧ ps = xs.map fun p => (V.ref p.2.1, p.2.2)
mutual
/-- v stands for d in the part F of the heap, which nobody writes; ι: where the stored objects lie -/
def Rp (g : Gm) (ι : List Addr) (F : Hp) : D → V → Prop
  | .non, v => v = .non
  | .bl b, v => v = .bl b
  | .int i, v => v = .int i
  | .str x, v => v = .str x
  | .tup ds, v => ∃ a vs, v = .ref a ∧ F a = some (.tup vs) ∧ RpL g ι F ds vs
  | .lst ds, v => ∃ a vs, v = .ref a ∧ F a = some (.lst vs) ∧ RpL g ι F ds vs
  | .dct t ks, v => ∃ a o ps, v = .ref a ∧ F a = some o ∧ KD g a o t (ks.map (·.1)) ps ∧ RpK g ι F ks ps
  | .scr ns, v => ∃ a, v = .ref a ∧ ScrAt g.K F a ns
  | .ob n, v => ∃ a, ι[n]? = some a ∧ v = .ref a
  | .fn a, v => v = .ref a
def RpL (g : Gm) (ι : List Addr) (F : Hp) : List D → List V → Prop
  | [], vs => vs = []
  | d :: ds, vs => ∃ v r, vs = v :: r ∧ Rp g ι F d v ∧ RpL g ι F ds r
/-- a dict's keys and values -/
def RpK (g : Gm) (ι : List Addr) (F : Hp) : List (D × D) → List (V × V) → Prop
  | [], vs => vs = []
  | (k, d) :: ks, vs => ∃ u v r, vs = (u, v) :: r ∧ Rp g ι F k u ∧ Rp g ι F d v ∧ RpK g ι F ks r
end
/-- more of the heap, more stored objects -/
structure Le (ι : List Addr) (F : Hp) (ι' : List Addr) (F' : Hp) : Prop where
  io : ∀ (n : Nat) a, ι[n]? = some a → ι'[n]? = some a
  fo : ∀ a o, F a = some o → F' a = some o
theorem Le.refl (ι : List Addr) (F : Hp) : Le ι F ι F := ⟨fun _ _ h => h, fun _ _ h => h⟩
theorem Le.trans {ι ι1 ι2 : List Addr} {F F1 F2 : Hp} (a : Le ι F ι1 F1) (b : Le ι1 F1 ι2 F2) : Le ι F ι2 F2 := ⟨fun n c h => b.io n c (a.io n c h), fun c o h => b.fo c o (a.fo c o h)⟩
mutual
theorem Rp.mono {g : Gm} {ι ι' : List Addr} {F F' : Hp} (l : Le ι F ι' F') : ∀ (d : D) (v : V), Rp g ι F d v → Rp g ι' F' d v
  | .non, _, h => h
  | .bl _, _, h => h
  | .int _, _, h => h
  | .str _, _, h => h
  | .tup ds, v, ⟨a, vs, e, h1, h2⟩ => ⟨a, vs, e, l.fo _ _ h1, RpL.mono l ds vs h2⟩
  | .lst ds, v, ⟨a, vs, e, h1, h2⟩ => ⟨a, vs, e, l.fo _ _ h1, RpL.mono l ds vs h2⟩
  | .dct t ks, v, ⟨a, o, vs, e, h1, h2, h3⟩ => ⟨a, o, vs, e, l.fo _ _ h1, h2, RpK.mono l ks vs h3⟩
  | .scr ns, v, ⟨a, e, h1⟩ => ⟨a, e, h1.mono l.fo⟩
  | .ob n, v, ⟨a, h1, e⟩ => ⟨a, l.io _ _ h1, e⟩
  | .fn a, v, h => h
theorem RpL.mono {g : Gm} {ι ι' : List Addr} {F F' : Hp} (l : Le ι F ι' F') : ∀ (ds : List D) (vs : List V), RpL g ι F ds vs → RpL g ι' F' ds vs
  | [], _, h => h
  | d :: ds, _, ⟨v, r, e, h1, h2⟩ => ⟨v, r, e, Rp.mono l d v h1, RpL.mono l ds r h2⟩
theorem RpK.mono {g : Gm} {ι ι' : List Addr} {F F' : Hp} (l : Le ι F ι' F') : ∀ (ks : List (D × D)) (vs : List (V × V)), RpK g ι F ks vs → RpK g ι' F' ks vs
  | [], _, h => h
  | (k, d) :: ks, _, ⟨u, v, r, e, h1, h2, h3⟩ => ⟨u, v, r, e, Rp.mono l k u h1, Rp.mono l d v h2, RpK.mono l ks r h3⟩
end
theorem RpL.length {g : Gm} {ι : List Addr} {F : Hp} : ∀ {ds : List D} {vs : List V}, RpL g ι F ds vs → vs.length = ds.length
  | [], _, h => by cases h; rfl
  | d :: ds, _, ⟨v, r, e, h1, h2⟩ => by subst e; simp [RpL.length h2]
theorem RpL.get {g : Gm} {ι : List Addr} {F : Hp} : ∀ {ds : List D} {vs : List V} {i : Nat} {d : D}, RpL g ι F ds vs → ds[i]? = some d → ∃ v, vs[i]? = some v ∧ Rp g ι F d v
  | [], _, i, d, h, e => by simp at e
  | d :: ds, _, 0, d', ⟨v, r, e, h1, h2⟩, e' => by
    subst e
    simp at e'
    subst e'
    exact ⟨v, rfl, h1⟩
  | d :: ds, _, i + 1, d', ⟨v, r, e, h1, h2⟩, e' => by
    subst e
    obtain ⟨u, q1, q2⟩ := RpL.get (i := i) h2 (by simpa using e')
    exact ⟨u, by simpa using q1, q2⟩
theorem RpL.getV {g : Gm} {ι : List Addr} {F : Hp} {ds : List D} {vs : List V} {i : Nat} {v : V} (h : RpL g ι F ds vs) (e : vs[i]? = some v) : ∃ d, ds[i]? = some d ∧ Rp g ι F d v := by
  have hl := h.length
  have hi : i < ds.length := by
    have := (List.getElem?_eq_some_iff.mp e).1
    omega
  obtain ⟨u, q1, q2⟩ := h.get (List.getElem?_eq_getElem hi)
  rw [e] at q1
  cases q1
  exact ⟨_, List.getElem?_eq_getElem hi, q2⟩
theorem RpL.append {g : Gm} {ι : List Addr} {F : Hp} : ∀ {ds es : List D} {vs us : List V}, RpL g ι F ds vs → RpL g ι F es us → RpL g ι F (ds ++ es) (vs ++ us)
  | [], _, _, _, h, k => by cases h; exact k
  | d :: ds, _, _, _, ⟨v, r, e, h1, h2⟩, k => by subst e; exact ⟨v, _, rfl, h1, RpL.append h2 k⟩
theorem RpL.one {g : Gm} {ι : List Addr} {F : Hp} {d : D} {v : V} (h : Rp g ι F d v) : RpL g ι F [d] [v] := ⟨v, [], rfl, h, rfl⟩
theorem RpL.take {g : Gm} {ι : List Addr} {F : Hp} : ∀ {ds : List D} {vs : List V} (n : Nat), RpL g ι F ds vs → RpL g ι F (ds.take n) (vs.take n)
  | _, _, 0, _ => by simp [RpL]
  | [], _, n + 1, h => by cases h; simp [RpL]
  | d :: ds, _, n + 1, ⟨v, r, e, h1, h2⟩ => by subst e; exact ⟨v, _, rfl, h1, RpL.take n h2⟩
theorem RpL.drop {g : Gm} {ι : List Addr} {F : Hp} : ∀ {ds : List D} {vs : List V} (n : Nat), RpL g ι F ds vs → RpL g ι F (ds.drop n) (vs.drop n)
  | _, _, 0, h => h
  | [], _, n + 1, h => by cases h; simp [RpL]
  | d :: ds, _, n + 1, ⟨v, r, e, h1, h2⟩ => by subst e; exact RpL.drop n h2
theorem RpL.set {g : Gm} {ι : List Addr} {F : Hp} {d : D} {v : V} (k : Rp g ι F d v) : ∀ {ds : List D} {vs : List V} (i : Nat), RpL g ι F ds vs → RpL g ι F (ds.set i d) (vs.set i v)
  | [], _, _, h => by cases h; simp [RpL]
  | _ :: ds, _, 0, ⟨u, r, e, _, h2⟩ => by subst e; exact ⟨v, r, rfl, k, h2⟩
  | d' :: ds, _, i + 1, ⟨u, r, e, h1, h2⟩ => by subst e; exact ⟨u, _, rfl, h1, RpL.set k i h2⟩
theorem RpL.nil_iff {g : Gm} {ι : List Addr} {F : Hp} {ds : List D} {vs : List V} (h : RpL g ι F ds vs) : vs = [] ↔ ds = [] := by
  have := h.length
  constructor <;> intro q <;> subst q
  · cases ds with
    | nil => rfl
    | cons _ _ => simp at this
  · cases vs with
    | nil => rfl
    | cons _ _ => simp at this

/-! ### the state -/
/-- what is named stands in the heap; a dict may be locked there while a loop walks it -/
def Rdx (H : Hp) (a : Addr) (o : HO) : Prop := H a = some o ∨ (((∃ kvs, o = .dK kvs) ∨ ∃ w xs, o = dN w a xs) ∧ ∃ ob, H a = some (.frz ob o))
def Sb (F H : Hp) : Prop := ∀ a o, F a = some o → Rdx H a o
def nd : HO → Bool
  | .lst _ => true
  | .tup _ => true
  | .frz _ _ => true
  | _ => false
theorem Rdx.ex {H : Hp} {a : Addr} {o : HO} (r : Rdx H a o) (n : nd o = true) : H a = some o := by
  rcases r with r | ⟨r | ⟨w, xs, r⟩, _⟩
  · exact r
  · obtain ⟨kvs, rfl⟩ := r; cases n
  · subst r; unfold dN at n; cases n
theorem Sb.ex {F H : Hp} (s : Sb F H) {a : Addr} {o : HO} (h : F a = some o) (n : nd o = true := by rfl) : H a = some o := (s a o h).ex n
theorem ScrAt.sq {K : PySem.W.Frag} {F H : Hp} {a : Addr} {ns : List Int} (h : ScrAt K F a ns) (s : Sb F H) : SqL K H a (ns.map V.int) := by
  rcases h with (⟨o, h⟩ | h) | h
  · exact .inl (.inr ⟨o, s.ex h⟩)
  · exact .inl (.inl (s.ex h))
  · exact .inr h
theorem Rdx.any {H : Hp} {a : Addr} {o : HO} (r : Rdx H a o) : ∃ u, H a = some u := by
  rcases r with r | ⟨_, ob, r⟩
  · exact ⟨_, r⟩
  · exact ⟨_, r⟩
theorem Rdx.up {H H' : Hp} {a : Addr} {o : HO} (r : Rdx H a o) (k : ∀ u, H a = some u → H' a = some u) : Rdx H' a o := by
  rcases r with r | ⟨q, ob, r⟩
  · exact .inl (k _ r)
  · exact .inr ⟨q, ob, k _ r⟩
/-- a code object is no dict -/
theorem codeO_dN {c : Addr} {q : Str} {w : World} {a : Addr} {xs : List (NestedKey × Addr × V)} : LamX.CodeO c q ≠ dN w a xs := by
  intro z
  unfold LamX.CodeO dN at z
  have e := HO.ext.inj z
  have ob : ∀ b o, (⟨Array.replicate (c + 1) { cls := .none, data := .fields #[.none, .str q 0] }, {}⟩ : Heap).get? b = some o → o = { cls := .none, data := .fields #[.none, .str q 0] } := fun b o h => by
    obtain ⟨h1, _⟩ := Heap.get?_some_iff.mp h
    have h2 : (Array.replicate (c + 1) ({ cls := .none, data := .fields #[.none, .str q 0] } : Obj))[b]? = some o := h1
    rw [Array.getElem?_replicate] at h2
    split at h2
    · exact (Option.some.inj h2).symm
    · cases h2
  have at_ : (⟨Array.replicate (c + 1) { cls := .none, data := .fields #[.none, .str q 0] }, {}⟩ : Heap).get? c = some { cls := .none, data := .fields #[.none, .str q 0] } := by
    refine Heap.get?_some_iff.mpr ⟨?_, rfl⟩
    show (Array.replicate (c + 1) ({ cls := .none, data := .fields #[.none, .str q 0] } : Obj))[c]? = _
    rw [Array.getElem?_replicate, if_pos (Nat.lt_succ_self c)]
  have q1 := congrFun e (⟨Array.replicate (c + 1) { cls := .none, data := .fields #[.none, .str q 0] }, {}⟩ : Heap)
  have q2 := q1.mp ⟨_, _, 0, at_, rfl, rfl⟩
  obtain ⟨_, _, ys, _, o, es, ep, ho, _, hd, _⟩ := q2
  rw [ob _ _ ho] at hd
  cases hd
theorem Sb.code {F H : Hp} (s : Sb F H) {c : Addr} {q : Str} (h : F c = some (LamX.CodeO c q)) : H c = some (LamX.CodeO c q) := by
  rcases s _ _ h with z | ⟨⟨kvs, z⟩ | ⟨w, xs, z⟩, _⟩
  · exact z
  · unfold LamX.CodeO at z
    cases z
  · exact absurd z codeO_dN
/-- a frame: the dicts that its loops walk (lk), what is made and not yet named (hid), its entry (the part of the heap that may be named, the heap, the stored objects) and what is wanted of an error that leaves it -/
structure Fr extends Gm where
  F0 : Hp
  H0 : Hp
  ι0 : List Addr
  lk : List Addr
  ul : Bool
  hid : List (Addr × HO)
  ex : Err → W → Prop
/-- an own list or dict at a -/
def RpO (g : Gm) (ι : List Addr) (F H : Hp) (a : Addr) : D → Prop
  | .lst ds => ∃ vs, H a = some (.lst vs) ∧ RpL g ι F ds vs
  | .dct t ks => ∃ o ps, H a = some o ∧ KD g a o t (ks.map (·.1)) ps ∧ RpK g ι F ks ps
  | _ => False
/-- an instance's attributes -/
def RpF (g : Gm) (ι : List Addr) (F : Hp) : List (Str × D) → List (Str × V) → Prop
  | [], fs => fs = []
  | (n, d) :: r, fs => ∃ v q, fs = (n, v) :: q ∧ Rp g ι F d v ∧ RpF g ι F r q
/-- a stored object at a -/
def RpS (g : Gm) (u : Bool) (ι : List Addr) (F H : Hp) (a : Addr) : SO → Prop
  | .lst ds => ∃ vs, H a = some (.lst vs) ∧ RpL g ι F ds vs
  | .dct t ks => ∃ o ps, (Rdx H a o ∧ (u = true → H a = some o)) ∧ KD g a o t (ks.map (·.1)) ps ∧ RpK g ι F ks ps
  | .ins c fs => ∃ dx gs, H a = some (.ins (g.cl c) dx gs) ∧ RpF g ι F fs gs
/-- a table of code objects -/
def TabG (F H : Hp) (P : Addr) : Prop := ∃ ps : Array Value, H P = some (.tbl ps) ∧ TriplesOk ps.toList ∧ ∀ (pos : Pos) (cv : Value), codeAmong pos ps.toList = some cv → ∃ c q, cv = .ref c ∧ F c = some (LamX.CodeO c q) ∧ H c = some (LamX.CodeO c q)
theorem TabG.up {F F' H H' : Hp} {P : Addr} (t : TabG F H P) (h1 : ∀ ps, H P = some (.tbl ps) → H' P = some (.tbl ps)) (h2 : ∀ a o, F a = some o → F' a = some o) (h3 : ∀ a o, F a = some o → H a = some o → H' a = some o) : TabG F' H' P := by
  obtain ⟨ps, e, t1, t2⟩ := t
  refine ⟨ps, h1 ps e, t1, fun pos cv hc => ?_⟩
  obtain ⟨c, q, e1, e2, e3⟩ := t2 pos cv hc
  exact ⟨c, q, e1, h2 _ _ e2, h3 _ _ e2 e3⟩
structure SR (Γ : Fr) (w : W) (ι : List Addr) (F : Hp) (σ : L2.St) (H : Hp) : Prop where
  sub : Sb F H
  ent : ∀ a o, Γ.F0 a = some o → F a = some o
  new : ∀ a o, F a = some o → Γ.F0 a = some o ∨ Γ.H0 a = none
  kp : ∀ a o, Γ.H0 a = some o → a ∉ Γ.ι0 → (∀ ps, o ≠ .tbl ps) → H a = some o ∨ (a ∈ Γ.lk ∧ ∃ ob, H a = some (.frz ob o))
  kt : ∀ a ps, Γ.H0 a = some (.tbl ps) → ∃ ps', H a = some (.tbl ps')
  tab : ∀ P ∈ Γ.T, TabG F H P
  ntab : ∀ a ps, F a ≠ some (.tbl ps)
  io : ∀ (n : Nat) a, Γ.ι0[n]? = some a → ι[n]? = some a
  inw : ∀ a ∈ ι, a ∈ Γ.ι0 ∨ Γ.H0 a = none
  ind : ι.Nodup
  slen : w.sl.length = σ.length
  slot : ∀ (i : Nat) d, w.sl[i]? = some (some (false, d)) → ∃ v, σ[i]? = some (some v) ∧ Rp Γ.toGm ι F d v
  own : ∀ (i : Nat) d, w.sl[i]? = some (some (true, d)) → ∃ a : Addr, σ[i]? = some (some (V.ref a)) ∧ F a = none ∧ Γ.H0 a = none ∧ a ∉ ι ∧ RpO Γ.toGm ι F H a d
  own2 : ∀ (i j : Nat) d e (a : Addr), i ≠ j → w.sl[i]? = some (some (true, d)) → w.sl[j]? = some (some (true, e)) → σ[i]? = some (some (V.ref a)) → σ[j]? ≠ some (some (V.ref a))
  hid : ∀ p ∈ Γ.hid, H p.1 = some p.2 ∧ F p.1 = none ∧ p.1 ∉ ι ∧ (∀ (j : Nat) e, w.sl[j]? = some (some (true, e)) → σ[j]? ≠ some (some (V.ref p.1))) ∧ ∀ ps, p.2 ≠ .tbl ps
  stl : w.st.length = ι.length
  sto : ∀ (n : Nat) o a, w.st[n]? = some o → ι[n]? = some a → F a = none ∧ RpS Γ.toGm Γ.ul ι F H a o


section
variable {Γ : Fr} {w : W} {ι : List Addr} {F : Hp} {σ : L2.St} {H : Hp}
theorem SR.mem_some (S : SR Γ w ι F σ H) {a : Addr} (h : a ∈ ι) : ∃ o, H a = some o := by
  obtain ⟨n, hn, e⟩ := List.getElem_of_mem h
  have hw : n < w.st.length := by rw [S.stl]; exact hn
  obtain ⟨_, r⟩ := S.sto n _ a (List.getElem?_eq_getElem hw) (by rw [List.getElem?_eq_getElem hn, e])
  cases q : w.st[n] with
  | lst ds => rw [q] at r; obtain ⟨vs, r, _⟩ := r; exact ⟨_, r⟩
  | dct t ks => rw [q] at r; obtain ⟨o, vs, r, _⟩ := r; exact Rdx.any r.1
  | ins c fs => rw [q] at r; obtain ⟨dx, gs, r, _⟩ := r; exact ⟨_, r⟩
theorem SR.mem0 (S : SR Γ w ι F σ H) {a : Addr} (h : a ∈ Γ.ι0) : a ∈ ι := by
  obtain ⟨n, hn, e⟩ := List.getElem_of_mem h
  exact List.mem_of_getElem? (S.io n a (by rw [List.getElem?_eq_getElem hn, e]))
/-- what is free now was free at the entry -/
theorem SR.free0 (S : SR Γ w ι F σ H) {p : Addr} (n : H p = none) : Γ.H0 p = none := by
  cases q : Γ.H0 p with
  | none => rfl
  | some u =>
    exfalso
    by_cases hi : p ∈ Γ.ι0
    · obtain ⟨o, e⟩ := S.mem_some (S.mem0 hi)
      rw [n] at e; cases e
    · by_cases ht : ∃ ps, u = .tbl ps
      · obtain ⟨ps, rfl⟩ := ht
        obtain ⟨ps', e⟩ := S.kt p ps q
        rw [n] at e; cases e
      · rcases S.kp p u q hi fun ps e => ht ⟨ps, e⟩ with e | ⟨_, _, e⟩
        · rw [n] at e; cases e
        · rw [n] at e; cases e
theorem SR.freeF (S : SR Γ w ι F σ H) {p : Addr} (n : H p = none) : F p = none := by
  cases q : F p with
  | none => rfl
  | some u =>
    obtain ⟨v, e⟩ := (S.sub p u q).any
    rw [n] at e; cases e
theorem SR.nmem (S : SR Γ w ι F σ H) {p : Addr} (n : H p = none) : p ∉ ι := fun h => by
  obtain ⟨o, e⟩ := S.mem_some h
  rw [n] at e; cases e
theorem Le.upd {ι : List Addr} {F : Hp} {p : Addr} {o : HO} (n : F p = none) : Le ι F ι (upd F p o) := ⟨fun _ _ h => h, fun a u h => by rw [upd_ne (ne_of_none h n)]; exact h⟩
/-- the heap may change at one place, a free one or one that is neither named nor stored nor owned -/
theorem RpO.keep {g : Gm} {ι ι' : List Addr} {F F' H H' : Hp} {a : Addr} {d : D} (l : Le ι F ι' F') (k : ∀ o, H a = some o → H' a = some o) (h : RpO g ι F H a d) : RpO g ι' F' H' a d := by
  cases d with
  | lst ds => obtain ⟨vs, e, r⟩ := h; exact ⟨vs, k _ e, RpL.mono l _ _ r⟩
  | dct t ks => obtain ⟨o, vs, e, q, r⟩ := h; exact ⟨o, vs, k _ e, q, RpK.mono l _ _ r⟩
  | _ => exact h.elim
theorem RpF.mono {g : Gm} {ι ι' : List Addr} {F F' : Hp} (l : Le ι F ι' F') : ∀ (fs : List (Str × D)) (gs : List (Str × V)), RpF g ι F fs gs → RpF g ι' F' fs gs
  | [], _, h => h
  | (n, d) :: r, _, ⟨v, q, e, h1, h2⟩ => ⟨v, q, e, Rp.mono l d v h1, RpF.mono l r q h2⟩
theorem RpS.keep {g : Gm} {u : Bool} {ι ι' : List Addr} {F F' H H' : Hp} {a : Addr} {d : SO} (l : Le ι F ι' F') (k : ∀ o, H a = some o → H' a = some o) (h : RpS g u ι F H a d) : RpS g u ι' F' H' a d := by
  cases d with
  | lst ds => obtain ⟨vs, e, r⟩ := h; exact ⟨vs, k _ e, RpL.mono l _ _ r⟩
  | dct t ks => obtain ⟨o, vs, e, q, r⟩ := h; exact ⟨o, vs, ⟨Rdx.up e.1 k, fun z => k _ (e.2 z)⟩, q, RpK.mono l _ _ r⟩
  | ins c fs => obtain ⟨dx, gs, e, r⟩ := h; exact ⟨dx, gs, k _ e, RpF.mono l _ _ r⟩
theorem RpO.some {g : Gm} {ι : List Addr} {F H : Hp} {a : Addr} {d : D} (h : RpO g ι F H a d) : ∃ o, H a = some o ∧ ∀ ps, o ≠ .tbl ps := by
  cases d with
  | lst ds => obtain ⟨vs, e, r⟩ := h; exact ⟨_, e, fun ps z => by cases z⟩
  | dct t ks =>
    obtain ⟨o, vs, e, q, r⟩ := h
    refine ⟨o, e, fun ps z => ?_⟩
    subst z
    cases t with
    | false => obtain ⟨_, z, _⟩ := q; cases z
    | true => obtain ⟨_, z, _⟩ := q; unfold dN at z; cases z
  | _ => exact h.elim
/-- a new object that nobody will write -/
theorem SR.alloc (S : SR Γ w ι F σ H) {p : Addr} {o : HO} (n : H p = none) (nt : ∀ ps, o ≠ .tbl ps) : SR Γ w ι (upd F p o) σ (upd H p o) ∧ Le ι F ι (upd F p o) := by
  have nF := S.freeF n
  have n0 := S.free0 n
  have l : Le ι F ι (upd F p o) := Le.upd nF
  have kH : ∀ a u, H a = some u → upd H p o a = some u := fun a u h => by rw [upd_ne (ne_of_none h n)]; exact h
  refine ⟨⟨fun a u h => ?_, fun a u h => l.fo a u (S.ent a u h), fun a u h => ?_, fun a u h1 h2 h3 => (S.kp a u h1 h2 h3).imp (kH a u) (fun ⟨z, ob, e⟩ => ⟨z, ob, kH a _ e⟩), fun a ps h => ?_, fun P hP => ?_, fun a ps => ?_, S.io, S.inw, S.ind, S.slen, fun i d h => ?_, fun i d h => ?_, S.own2, fun q hq => ?_, S.stl, fun m u a h1 h2 => ?_⟩, l⟩
  · by_cases ha : a = p
    · subst ha; rw [upd_same] at h; exact .inl (by rw [upd_same]; exact h)
    · rw [upd_ne ha] at h; exact (S.sub a u h).up (kH a)
  · by_cases ha : a = p
    · subst ha; exact .inr n0
    · rw [upd_ne ha] at h; exact S.new a u h
  · obtain ⟨ps', e⟩ := S.kt a ps h
    exact ⟨ps', kH _ _ e⟩
  · exact (S.tab P hP).up (fun ps e => kH _ _ e) l.fo fun a u _ e => kH _ _ e
  · by_cases ha : a = p
    · subst ha; rw [upd_same]; intro e; exact nt ps (Option.some.inj e)
    · rw [upd_ne ha]; exact S.ntab a ps
  · obtain ⟨v, e, r⟩ := S.slot i d h
    exact ⟨v, e, Rp.mono l d v r⟩
  · obtain ⟨a, e, f, f0, fi, r⟩ := S.own i d h
    obtain ⟨u, hu, _⟩ := r.some
    have ha : a ≠ p := ne_of_none hu n
    exact ⟨a, e, by rw [upd_ne ha]; exact f, f0, fi, r.keep l (kH a)⟩
  · obtain ⟨q1, q2, q3, q4, qt⟩ := S.hid q hq
    exact ⟨kH _ _ q1, by rw [upd_ne (ne_of_none q1 n)]; exact q2, q3, q4, qt⟩
  · obtain ⟨f, r⟩ := S.sto m u a h1 h2
    obtain ⟨x, hx⟩ := S.mem_some (List.mem_of_getElem? h2)
    have ha : a ≠ p := ne_of_none hx n
    exact ⟨by rw [upd_ne ha]; exact f, r.keep l (kH a)⟩
end
end Dl


set_option Elab.async false
set_option linter.all false
set_option maxRecDepth 100000
set_option maxHeartbeats 4000000
namespace Dl
open PySem PySem.Spec PyProof.Rows L2

/-! ### judgements -/
theorem _root_.L2.PE.imp {X : Cx} {e : Expr} {t t' : TE} (h : PE X e t) (k : ∀ σ H Q, t' σ H Q → t σ H Q) : PE X e t' := ⟨fun pins s σ H Q I q => h.run pins s σ H Q I (k _ _ _ q)⟩
theorem _root_.L2.PT.imp {X : Cx} {e : Expr} {t t' : TT} (h : PT X e t) (k : ∀ σ H Q, t' σ H Q → t σ H Q) : PT X e t' := ⟨fun pins s σ H Q I q => h.run pins s σ H Q I (k _ _ _ q)⟩
theorem _root_.L2.PW.imp {X : Cx} {e : Expr} {t t' : TT} (h : PW X e t) (k : ∀ σ H Q, t' σ H Q → t σ H Q) : PW X e t' := ⟨fun wh pins s σ H Q I q => h.run wh pins s σ H Q I (k _ _ _ q)⟩
theorem _root_.L2.PA.imp {X : Cx} {e : List Expr} {t t' : TA} (h : PA X e t) (k : ∀ σ H Q, t' σ H Q → t σ H Q) : PA X e t' := ⟨fun pos pins s σ H Q I q => h.run pos pins s σ H Q I (k _ _ _ q)⟩
theorem _root_.L2.PS.imp {X : Cx} {e : Stmt} {t t' : TS} (h : PS X e t) (k : ∀ D σ H, t' D σ H → t D σ H) : PS X e t' := ⟨fun pins s σ H D I q => h.run pins s σ H D I (k _ _ _ q)⟩
theorem _root_.L2.PSs.imp {X : Cx} {e : List Stmt} {t t' : TS} (h : PSs X e t) (k : ∀ D σ H, t' D σ H → t D σ H) : PSs X e t' := ⟨fun pins s σ H D I q => h.run pins s σ H D I (k _ _ _ q)⟩
theorem _root_.L2.PI.imp {X : Cx} {tg e : Expr} {t t' : TI} (h : PI X tg e t) (k : ∀ σ H Q, t' σ H Q → t σ H Q) : PI X tg e t' := ⟨fun pins s σ H Q I q => h.run pins s σ H Q I (k _ _ _ q)⟩

/-- what is asked of an outcome -/
def RR {α : Type} (Γ : Fr) (r : R α) (k : α → W → Prop) : Prop := match r with
  | .ok a w => k a w
  | .exc x w => Γ.ex x w
  | .bad => False
theorem RR.mono {α : Type} {Γ : Fr} {r : R α} {k k' : α → W → Prop} (h : RR Γ r k) (m : ∀ a w, k a w → k' a w) : RR Γ r k' := by
  cases r with
  | ok a w => exact m a w h
  | exc x w => exact h
  | bad => exact h
theorem RR.bnd {α β : Type} {Γ : Fr} {r : R α} {f : α → M β} {k : β → W → Prop} (h : RR Γ (r.andThen f) k) : RR Γ r fun a w => RR Γ (f a w) k := by
  cases r with
  | ok a w => exact h
  | exc x w => exact h
  | bad => exact h
/-- the values that may come -/
def Po (Γ : Fr) (ι : List Addr) (F : Hp) (σ : L2.St) (Q : VK) (d : D) (w' : W) : Prop :=
  ∀ ι' F' H' v, SR Γ w' ι' F' σ H' → Le ι F ι' F' → Rp Γ.toGm ι' F' d v → Q v H'
theorem Po.le {Γ : Fr} {ι ι1 : List Addr} {F F1 : Hp} {σ : L2.St} {Q : VK} {d : D} {w : W} (h : Po Γ ι F σ Q d w) (l : Le ι F ι1 F1) : Po Γ ι1 F1 σ Q d w := fun ι' F' H' v S l' r => h ι' F' H' v S (l.trans l') r
def tD (Γ : Fr) (m : M D) : TE := fun σ H Q => ∃ w ι F, SR Γ w ι F σ H ∧ RR Γ (m w) (Po Γ ι F σ Q)
structure DE (X : Cx) (Γ : Fr) (e : Expr) (m : M D) : Prop where
  pe : PE X e (tD Γ m)
def PoB (Γ : Fr) (ι : List Addr) (F : Hp) (σ : L2.St) (Q : Bool → Hp → Prop) (d : Bool) (w' : W) : Prop :=
  ∀ ι' F' H', SR Γ w' ι' F' σ H' → Le ι F ι' F' → Q d H'
def tB (Γ : Fr) (m : M Bool) : TT := fun σ H Q => ∃ w ι F, SR Γ w ι F σ H ∧ RR Γ (m w) (PoB Γ ι F σ Q)
structure DT (X : Cx) (Γ : Fr) (e : Expr) (m : M Bool) : Prop where
  pt : PT X e (tB Γ m)
structure DW (X : Cx) (Γ : Fr) (e : Expr) (m : M Bool) : Prop where
  pw : PW X e (tB Γ m)
def PoL (Γ : Fr) (ι : List Addr) (F : Hp) (σ : L2.St) (Q : List V → Hp → Prop) (ds : List D) (w' : W) : Prop :=
  ∀ ι' F' H' vs, SR Γ w' ι' F' σ H' → Le ι F ι' F' → RpL Γ.toGm ι' F' ds vs → Q vs H'
def tL (Γ : Fr) (m : M (List D)) : TA := fun σ H Q => ∃ w ι F, SR Γ w ι F σ H ∧ RR Γ (m w) (PoL Γ ι F σ Q)
structure DA (X : Cx) (Γ : Fr) (es : List Expr) (m : M (List D)) : Prop where
  pa : PA X es (tL Γ m)
def PoF (Γ : Fr) (ι : List Addr) (F : Hp) (E : Ends) (f : Fl) (w' : W) : Prop := match f with
  | .nx => ∀ ι' F' σ' H', SR Γ w' ι' F' σ' H' → Le ι F ι' F' → E.nx σ' H'
  | .bk => ∀ ι' F' σ' H', SR Γ w' ι' F' σ' H' → Le ι F ι' F' → E.bk σ' H'
  | .ct => ∀ ι' F' σ' H', SR Γ w' ι' F' σ' H' → Le ι F ι' F' → E.ct σ' H'
  | .rt d => ∀ ι' F' σ' H' v, SR Γ w' ι' F' σ' H' → Le ι F ι' F' → Rp Γ.toGm ι' F' d v → E.rt v H'
theorem PoF.le {Γ : Fr} {ι ι1 : List Addr} {F F1 : Hp} {E : Ends} {f : Fl} {w : W} (h : PoF Γ ι F E f w) (l : Le ι F ι1 F1) : PoF Γ ι1 F1 E f w := by
  cases f with
  | nx => exact fun ι' F' σ' H' S l' => h ι' F' σ' H' S (l.trans l')
  | bk => exact fun ι' F' σ' H' S l' => h ι' F' σ' H' S (l.trans l')
  | ct => exact fun ι' F' σ' H' S l' => h ι' F' σ' H' S (l.trans l')
  | rt d => exact fun ι' F' σ' H' v S l' r => h ι' F' σ' H' v S (l.trans l') r
def tF (Γ : Fr) (m : M Fl) : TS := fun E σ H => ∃ w ι F, SR Γ w ι F σ H ∧ RR Γ (m w) (PoF Γ ι F E)
structure DS (X : Cx) (Γ : Fr) (st : Stmt) (m : M Fl) : Prop where
  ps : PS X st (tF Γ m)
structure DB (X : Cx) (Γ : Fr) (st : List Stmt) (m : M Fl) : Prop where
  ps : PSs X st (tF Γ m)

/-- the general step: a reading is met by a denotation -/
theorem tD.run {Γ : Fr} {m : M D} {σ : L2.St} {H : Hp} {Q : VK} {w : W} {ι : List Addr} {F : Hp} (S : SR Γ w ι F σ H) (h : RR Γ (m w) (Po Γ ι F σ Q)) : tD Γ m σ H Q := ⟨w, ι, F, S, h⟩
theorem SR.po {Γ : Fr} {ι : List Addr} {F : Hp} {σ : L2.St} {H : Hp} {Q : VK} {d : D} {v : V} {w : W} (S : SR Γ w ι F σ H) (h : Po Γ ι F σ Q d w) (r : Rp Γ.toGm ι F d v) : Q v H := h ι F H v S (Le.refl _ _) r

section
variable {X : Cx} {Γ : Fr}
/-! ### constants, names -/
def eC (d : D) : M D := M.ret d
theorem de_int {i : Int} {j pos} : DE X Γ (.Constant (.int i) j pos) (eC (.int i)) := ⟨pe_int.imp fun σ H Q ⟨w, ι, F, S, h⟩ => S.po h rfl⟩
theorem de_bl {b : Bool} {j pos} : DE X Γ (.Constant (.bool b) j pos) (eC (.bl b)) := ⟨pe_bl.imp fun σ H Q ⟨w, ι, F, S, h⟩ => S.po h rfl⟩
theorem de_non {j pos} : DE X Γ (.Constant .none j pos) (eC .non) := ⟨pe_non.imp fun σ H Q ⟨w, ι, F, S, h⟩ => S.po h rfl⟩
theorem de_str {x : Str} {j pos} : DE X Γ (.Constant (.str x) j pos) (eC (.str x)) := ⟨pe_str.imp fun σ H Q ⟨w, ι, F, S, h⟩ => S.po h rfl⟩
/-- a module's number, text -/
theorem de_gint {x : Str} {i : Int} {t : Tok} {pos : Pos} (hg : Gl X x) (hm : X.mg x = some (.int i t)) (hd : (x == ("__debug__" : Str)) = false := by decide) : DE X Γ (.Name x pos) (eC (.int i)) :=
  ⟨(pe_glob (v := .int i) hg hm ⟨t, rfl⟩ hd).imp fun σ H Q ⟨w, ι, F, S, h⟩ => S.po h rfl⟩
theorem de_gstr {x : Str} {i : Str} {t : Tok} {pos : Pos} (hg : Gl X x) (hm : X.mg x = some (.str i t)) (hd : (x == ("__debug__" : Str)) = false := by decide) : DE X Γ (.Name x pos) (eC (.str i)) :=
  ⟨(pe_glob (v := .str i) hg hm ⟨t, rfl⟩ hd).imp fun σ H Q ⟨w, ι, F, S, h⟩ => S.po h rfl⟩
/-- a def of the module as a value -/
theorem de_gfn {x : Str} {a : Addr} {pos : Pos} (hg : Gl X x) (hm : X.mg x = some (.ref a)) (hd : (x == ("__debug__" : Str)) = false := by decide) : DE X Γ (.Name x pos) (eC (.fn a)) :=
  ⟨(pe_glob (v := .ref a) hg hm rfl hd).imp fun σ H Q ⟨w, ι, F, S, h⟩ => S.po h rfl⟩

/-- an own list or dict is handed out: from now on nobody writes it -/
def W.frz (w : W) (i : Nat) : W := match w.sl[i]? with
  | some (some (_, d)) => { w with sl := w.sl.set i (some (false, d)) }
  | _ => w
theorem SR.frz {w : W} {ι : List Addr} {F : Hp} {σ : L2.St} {H : Hp} (S : SR Γ w ι F σ H) {i : Nat} {d : D} (h : w.sl[i]? = some (some (true, d))) :
    ∃ F' v, SR Γ { w with sl := w.sl.set i (some (false, d)) } ι F' σ H ∧ Le ι F ι F' ∧ σ[i]? = some (some v) ∧ Rp Γ.toGm ι F' d v := by
  obtain ⟨a, e, f, f0, fi, r⟩ := S.own i d h
  obtain ⟨o, ho, ht⟩ := r.some
  have l : Le ι F ι (upd F a o) := Le.upd f
  have hi : i < w.sl.length := (List.getElem?_eq_some_iff.mp h).1
  have rp : Rp Γ.toGm ι (upd F a o) d (.ref a) := by
    cases d with
    | lst ds =>
      obtain ⟨vs, e1, r1⟩ := r
      rw [ho] at e1
      cases e1
      exact ⟨a, vs, rfl, upd_same, RpL.mono l _ _ r1⟩
    | dct t ks =>
      obtain ⟨o', vs, e1, q, r1⟩ := r
      rw [ho] at e1
      cases e1
      exact ⟨a, o, vs, rfl, upd_same, q, RpK.mono l _ _ r1⟩
    | _ => exact r.elim
  refine ⟨upd F a o, .ref a, ⟨fun b u h1 => ?_, fun b u h1 => l.fo b u (S.ent b u h1), fun b u h1 => ?_, S.kp, S.kt, fun P hP => (S.tab P hP).up (fun _ e => e) l.fo (fun _ _ _ e => e), fun b ps => ?_, S.io, S.inw, S.ind, by rw [List.length_set]; exact S.slen, fun j d' h1 => ?_, fun j d' h1 => ?_, fun j k d' e' b hjk h1 h2 h3 => ?_, fun p hp => ?_, S.stl, fun n u b h1 h2 => ?_⟩, l, e, rp⟩
  · by_cases hb : b = a
    · subst hb; rw [upd_same] at h1; exact .inl (by rw [← h1]; exact ho)
    · rw [upd_ne hb] at h1; exact S.sub b u h1
  · by_cases hb : b = a
    · subst hb; exact .inr f0
    · rw [upd_ne hb] at h1; exact S.new b u h1
  · by_cases hb : b = a
    · subst hb; rw [upd_same]; intro z; exact ht ps (Option.some.inj z)
    · rw [upd_ne hb]; exact S.ntab b ps
  · by_cases hj : j = i
    · subst hj
      rw [List.getElem?_set_self hi] at h1
      cases h1
      exact ⟨_, e, rp⟩
    · rw [List.getElem?_set_ne (Ne.symm hj)] at h1
      obtain ⟨v, q1, q2⟩ := S.slot j d' h1
      exact ⟨v, q1, Rp.mono l _ _ q2⟩
  · have hj : j ≠ i := by
      rintro rfl
      rw [List.getElem?_set_self hi] at h1
      cases h1
    rw [List.getElem?_set_ne (Ne.symm hj)] at h1
    obtain ⟨b, q1, q2, q3, q4, q5⟩ := S.own j d' h1
    have hb : b ≠ a := by
      rintro rfl
      exact S.own2 i j d d' b (Ne.symm hj) h h1 e q1
    exact ⟨b, q1, by rw [upd_ne hb]; exact q2, q3, q4, q5.keep l fun _ z => z⟩
  · have hj : j ≠ i := by
      rintro rfl
      rw [List.getElem?_set_self hi] at h1
      cases h1
    have hk : k ≠ i := by
      rintro rfl
      rw [List.getElem?_set_self hi] at h2
      cases h2
    rw [List.getElem?_set_ne (Ne.symm hj)] at h1
    rw [List.getElem?_set_ne (Ne.symm hk)] at h2
    exact S.own2 j k d' e' b hjk h1 h2 h3
  · obtain ⟨q1, q2, q3, q4, qt⟩ := S.hid p hp
    have hb : p.1 ≠ a := by
      intro z
      exact q4 i d h (by rw [z]; exact e)
    refine ⟨q1, by rw [upd_ne hb]; exact q2, q3, fun j e' h1 => ?_, qt⟩
    have hj : j ≠ i := by
      rintro rfl
      rw [List.getElem?_set_self hi] at h1
      cases h1
    rw [List.getElem?_set_ne (Ne.symm hj)] at h1
    exact q4 j e' h1
  · obtain ⟨q1, q2⟩ := S.sto n u b h1 h2
    have hb : b ≠ a := by
      rintro rfl
      exact fi (List.mem_of_getElem? h2)
    exact ⟨by rw [upd_ne hb]; exact q1, q2.keep l fun _ z => z⟩
/-- a name: its slot's value -/
def eV (i : Nat) : M D := fun w => match w.sl[i]? with
  | some (some (false, d)) => .ok d w
  | some (some (true, d)) => .ok d { w with sl := w.sl.set i (some (false, d)) }
  | _ => .bad
theorem de_var {i : Nat} {x : Str} {pos : Pos} (hN : X.N[i]? = some x := by rfl) (hv : Vis X.env.scope x := by first | exact Or.inl rfl | exact Or.inr (Or.inl rfl) | exact Or.inr (Or.inr rfl)) (hd : (x == ("__debug__" : Str)) = false := by decide)
    (hcd : (x == ("__classdict__" : Str)) = false := by decide) : DE X Γ (.Name x pos) (eV i) := by
  refine ⟨(pe_var hN hv hd hcd).imp fun σ H Q ⟨w, ι, F, S, h⟩ => ?_⟩
  unfold eV at h
  cases q : w.sl[i]? with
  | none => rw [q] at h; exact h.elim
  | some o =>
    cases o with
    | none => rw [q] at h; exact h.elim
    | some p =>
      obtain ⟨b, d⟩ := p
      cases b with
      | false =>
        rw [q] at h
        obtain ⟨v, e, r⟩ := S.slot i d q
        exact ⟨v, e, S.po h r⟩
      | true =>
        rw [q] at h
        obtain ⟨F', v, S', l, e, r⟩ := S.frz q
        exact ⟨v, e, h ι F' H v S' l r⟩
end
end Dl


set_option Elab.async false
set_option linter.all false
set_option maxRecDepth 100000
set_option maxHeartbeats 4000000
namespace Dl
open PySem PySem.Spec PyProof.Rows L2

section
variable {X : Cx} {Γ : Fr}
/-! ### operators by values -/
/-- the value rule r gives what f says -/
def OpD (Γ : Fr) (r : R2) (f : D → D → M D) : Prop :=
  ∀ {w : W} {ι : List Addr} {F : Hp} {σ : L2.St} {H : Hp} {x y : D} {vx vy : V} {Q : VK}, SR Γ w ι F σ H → Rp Γ.toGm ι F x vx → Rp Γ.toGm ι F y vy → RR Γ (f x y w) (Po Γ ι F σ Q) → r vx vy H Q
def eB (f : D → D → M D) (ma mb : M D) : M D := ma.bnd fun x => mb.bnd fun y => f x y
theorem tOp_of {r : R2} {f : D → D → M D} {ma mb : M D} (hf : OpD Γ r f) {σ : L2.St} {H : Hp} {Q : VK} (h : tD Γ (eB f ma mb) σ H Q) : tOp r (tD Γ ma) (tD Γ mb) σ H Q := by
  obtain ⟨w, ι, F, S, h⟩ := h
  refine ⟨w, ι, F, S, (RR.bnd h).mono fun x w1 h1 => ?_⟩
  intro ι1 F1 H1 v1 S1 l1 r1
  refine ⟨w1, ι1, F1, S1, (RR.bnd h1).mono fun y w2 h2 => ?_⟩
  intro ι2 F2 H2 v2 S2 l2 r2
  exact hf S2 (Rp.mono l2 _ _ r1) r2 (h2.mono fun z w3 h3 => h3.le (l1.trans l2))
variable {a b : Expr} {ma mb : M D} {pos : Pos}
theorem de_op {op : Operator} {r : R2} {f : D → D → M D} (ho : OpR X (binaryOp op) r) (hf : OpD Γ r f) (ha : DE X Γ a ma) (hb : DE X Γ b mb) : DE X Γ (.BinOp a op b pos) (eB f ma mb) :=
  ⟨(pe_op ho ha.pe hb.pe).imp fun _ _ _ h => tOp_of hf h⟩
theorem de_cmp {op : CmpOp} {r : R2} {f : D → D → M D} (ho : OpR X (compareOp op) r) (hf : OpD Γ r f) (ha : DE X Γ a ma) (hb : DE X Γ b mb) (hm : behindInMarks op b = false := by first | exact nomark _ | rfl) : DE X Γ (.Compare a [op] [b] pos) (eB f ma mb) :=
  ⟨(pe_cmpR ho ha.pe hb.pe hm).imp fun _ _ _ h => tOp_of hf h⟩
/-- truth of a value that is a bool -/
def isB : D → M Bool
  | .bl b => M.ret b
  | _ => M.no
def tT (m : M D) : M Bool := m.bnd isB
theorem tTest_of {t : TE} {m : M D} (h : ∀ σ H Q, tD Γ m σ H Q → t σ H Q) {σ : L2.St} {H : Hp} {Q : Bool → Hp → Prop} (hq : tB Γ (tT m) σ H Q) : tTest t σ H Q := by
  obtain ⟨w, ι, F, S, hq⟩ := hq
  refine h σ H _ ⟨w, ι, F, S, (RR.bnd hq).mono fun x w1 h1 => ?_⟩
  intro ι1 F1 H1 v1 S1 l1 r1
  cases x with
  | bl b => exact ⟨b, r1, h1 ι1 F1 H1 S1 l1⟩
  | _ => exact h1.elim
theorem dt_cmp {op : CmpOp} {r : R2} {f : D → D → M D} (ho : OpR X (compareOp op) r) (hf : OpD Γ r f) (ha : DE X Γ a ma) (hb : DE X Γ b mb) (hm : behindInMarks op b = false := by first | exact nomark _ | rfl) : DT X Γ (.Compare a [op] [b] pos) (tT (eB f ma mb)) :=
  ⟨(pt_cmpR ho ha.pe hb.pe hm).imp fun _ _ _ h => tTest_of (fun _ _ _ q => tOp_of hf q) h⟩

/-! ### arithmetic -/
def addD : D → D → M D
  | .int i, .int j => M.ret (.int (i + j))
  | .int i, .bl b => M.ret (.int (i + b2i b))
  | .str x, .str y => if x.length + y.length ≤ sizeLine then M.ret (.str (x ++ y)) else M.no
  | .tup a, .tup b => if a.length + b.length ≤ sizeLine then M.ret (.tup (a ++ b)) else M.no
  | .lst a, .lst b => if a.length + b.length ≤ sizeLine then M.ret (.lst (a ++ b)) else M.no
  | _, _ => M.no
def rAddD (K : PySem.W.Frag) : R2 := fun x y H Q =>
  ((((∃ i j, x = .int i ∧ y = .int j ∧ Q (.int (i + j)) H) ∨ (∃ i k, x = .int i ∧ y = .bl k ∧ Q (.int (i + b2i k)) H)) ∨
  (∃ i j, x = .str i ∧ y = .str j ∧ i.length + j.length ≤ sizeLine ∧ Q (.str (i ++ j)) H)) ∨ rCatA K x y H Q) ∨ rCat x y H Q
theorem op_addD : OpR X (binaryOp .Add) (rAddD X.K) := (((op_add.or op_add_ib).or op_add_str).or op_catA).or op_cat
theorem opd_add {K : PySem.W.Frag} : OpD Γ (rAddD K) addD := by
  intro w ι F σ H x y vx vy Q S rx ry h
  unfold addD at h
  split at h
  · cases rx; cases ry
    exact .inl (.inl (.inl (.inl ⟨_, _, rfl, rfl, S.po h rfl⟩)))
  · cases rx; cases ry
    exact .inl (.inl (.inl (.inr ⟨_, _, rfl, rfl, S.po h rfl⟩)))
  · split at h
    · cases rx; cases ry
      exact .inl (.inl (.inr ⟨_, _, rfl, rfl, by assumption, S.po h rfl⟩))
    · exact h.elim
  · rename_i ds es
    split at h
    · rename_i hz
      obtain ⟨p, vs, rfl, h1, h2⟩ := rx
      obtain ⟨q, us, rfl, h3, h4⟩ := ry
      refine .inl (.inr ⟨p, q, vs, us, rfl, rfl, .inl (.inl (S.sub.ex h1)), .inl (.inl (S.sub.ex h3)), by rw [h2.length, h4.length]; exact hz, fun e => ?_, fun _ e => ?_, fun _ _ b hb => ?_⟩)
      · have := h2.nil_iff.mp e
        subst this
        exact S.po h ⟨q, us, rfl, h3, h4⟩
      · have := h4.nil_iff.mp e
        subst this
        rw [List.append_nil] at h
        exact S.po h ⟨p, vs, rfl, h1, h2⟩
      · obtain ⟨S', l⟩ := S.alloc (o := .tup (vs ++ us)) hb (fun ps e => by cases e)
        exact h ι _ _ _ S' l ⟨b, _, rfl, upd_same, RpL.mono l _ _ (h2.append h4)⟩
    · exact h.elim
  · rename_i ds es
    split at h
    · rename_i hz
      obtain ⟨p, vs, rfl, h1, h2⟩ := rx
      obtain ⟨q, us, rfl, h3, h4⟩ := ry
      refine .inr ⟨p, q, vs, us, rfl, rfl, S.sub.ex h1, S.sub.ex h3, by rw [h2.length, h4.length]; exact hz, fun b hb => ?_⟩
      obtain ⟨S', l⟩ := S.alloc (o := .lst (vs ++ us)) hb (fun ps e => by cases e)
      exact h ι _ _ _ S' l ⟨b, _, rfl, upd_same, RpL.mono l _ _ (h2.append h4)⟩
    · exact h.elim
  · exact h.elim
theorem de_add (ha : DE X Γ a ma) (hb : DE X Γ b mb) : DE X Γ (.BinOp a .Add b pos) (eB addD ma mb) := de_op op_addD opd_add ha hb
def i2 (f : Int → Int → Option D) : D → D → M D
  | .int i, .int j => M.opt (f i j)
  | _, _ => M.no
theorem opd_i2 {C : Int → Int → Prop} {g : Int → Int → V} {f : Int → Int → Option D} (h : ∀ i j z, f i j = some z → C i j ∧ ∀ ι F, Rp Γ.toGm ι F z (g i j)) : OpD Γ (rI C g) (i2 f) := by
  intro w ι F σ H x y vx vy Q S rx ry hq
  unfold i2 at hq
  split at hq
  · rename_i i j
    cases rx; cases ry
    cases e : f i j with
    | none => rw [e] at hq; exact hq.elim
    | some z =>
      rw [e] at hq
      obtain ⟨hc, hr⟩ := h i j z e
      exact ⟨i, j, rfl, rfl, hc, S.po hq (hr _ _)⟩
  · exact hq.elim
theorem opd_i20 {g : Int → Int → V} {f : Int → Int → D} (h : ∀ i j ι F, Rp Γ.toGm ι F (f i j) (g i j)) : OpD Γ (rI0 g) (i2 fun i j => some (f i j)) := by
  intro w ι F σ H x y vx vy Q S rx ry hq
  unfold i2 at hq
  split at hq
  · cases rx; cases ry
    exact ⟨_, _, rfl, rfl, S.po hq (h _ _ _ _)⟩
  · exact hq.elim
def subD : D → D → M D := i2 fun i j => some (.int (i - j))
theorem de_sub (ha : DE X Γ a ma) (hb : DE X Γ b mb) : DE X Γ (.BinOp a .Sub b pos) (eB subD ma mb) := de_op op_sub (opd_i20 (f := fun i j => .int (i - j)) fun _ _ _ _ => rfl) ha hb
def mulD : D → D → M D
  | .int i, .int j => if (-(2 ^ 64) < i ∧ i < 2 ^ 64) ∨ (-(2 ^ 64) < j ∧ j < 2 ^ 64) then M.ret (.int (i * j)) else M.no
  | .lst ds, .int k => if -(2 ^ 63) ≤ k ∧ k < 2 ^ 63 ∧ ds.length * k.toNat ≤ sizeLine then M.ret (.lst (List.replicate k.toNat ds).flatten) else M.no
  | _, _ => M.no
theorem RpL.rep {g : Gm} {ι : List Addr} {F : Hp} {ds : List D} {vs : List V} (h : RpL g ι F ds vs) : ∀ k : Nat, RpL g ι F (List.replicate k ds).flatten (List.replicate k vs).flatten
  | 0 => rfl
  | k + 1 => by
    rw [List.replicate_succ, List.replicate_succ, List.flatten_cons, List.flatten_cons]
    exact h.append (RpL.rep h k)
theorem opd_mul : OpD Γ (fun x y H Q => rI CMul (fun i j => .int (i * j)) x y H Q ∨ rRep x y H Q) mulD := by
  intro w ι F σ H x y vx vy Q S rx ry h
  unfold mulD at h
  split at h
  · split at h
    · cases rx; cases ry
      exact .inl ⟨_, _, rfl, rfl, by assumption, S.po h rfl⟩
    · exact h.elim
  · split at h
    · rename_i hz
      obtain ⟨p, vs, rfl, h1, h2⟩ := rx
      cases ry
      refine .inr ⟨p, _, vs, rfl, rfl, S.sub.ex h1, hz.1, hz.2.1, by rw [h2.length]; exact hz.2.2, fun b hb => ?_⟩
      obtain ⟨S', l⟩ := S.alloc (o := .lst _) hb (fun ps e => by cases e)
      exact h ι _ _ _ S' l ⟨b, _, rfl, upd_same, RpL.mono l _ _ (h2.rep _)⟩
    · exact h.elim
  · exact h.elim
theorem de_mul (ha : DE X Γ a ma) (hb : DE X Γ b mb) : DE X Γ (.BinOp a .Mult b pos) (eB mulD ma mb) := de_op (op_mul.or op_rep) opd_mul ha hb
def fdivD : D → D → M D := i2 fun i j => if j ≠ 0 ∧ j.natAbs < 1073741824 then some (.int (i.fdiv j)) else none
theorem de_fdiv (ha : DE X Γ a ma) (hb : DE X Γ b mb) : DE X Γ (.BinOp a .FloorDiv b pos) (eB fdivD ma mb) := de_op op_fdivN (opd_i2 fun i j z h => by
  split at h
  · cases h
    exact ⟨by assumption, fun _ _ => rfl⟩
  · cases h) ha hb
def modD : D → D → M D := i2 fun i j => if j ≠ 0 then some (.int (i.fmod j)) else none
theorem de_mod (ha : DE X Γ a ma) (hb : DE X Γ b mb) : DE X Γ (.BinOp a .Mod b pos) (eB modD ma mb) := de_op op_modN (opd_i2 fun i j z h => by
  split at h
  · cases h
    exact ⟨by assumption, fun _ _ => rfl⟩
  · cases h) ha hb
def powD : D → D → M D := i2 fun i j => if 0 ≤ j ∧ j ≤ 1000000 ∧ i.natAbs < 2 ^ 64 then some (.int (i ^ j.toNat)) else none
theorem de_pow (ha : DE X Γ a ma) (hb : DE X Γ b mb) : DE X Γ (.BinOp a .Pow b pos) (eB powD ma mb) := de_op op_pow (opd_i2 fun i j z h => by
  split at h
  · cases h
    exact ⟨by assumption, fun _ _ => rfl⟩
  · cases h) ha hb
def negD (d : D) : M D := match d with
  | .int i => M.ret (.int (-i))
  | _ => M.no
theorem de_neg (ha : DE X Γ a ma) : DE X Γ (.UnaryOp .USub a pos) (ma.bnd negD) := ⟨(pe_un un_neg ha.pe).imp fun σ H Q ⟨w, ι, F, S, h⟩ => ⟨w, ι, F, S, (RR.bnd h).mono fun x w1 h1 => by
  intro ι1 F1 H1 v1 S1 l1 r1
  unfold negD at h1
  split at h1
  · cases r1
    exact ⟨_, rfl, h1 ι1 F1 H1 _ S1 l1 rfl⟩
  · exact h1.elim⟩⟩

/-! ### comparisons -/
def cmpD (p : Int → Int → Bool) : D → D → M D := i2 fun i j => some (.bl (p i j))
abbrev ltD := cmpD fun i j => decide (i < j)
abbrev leD := cmpD fun i j => decide (i ≤ j)
abbrev gtD := cmpD fun i j => decide (j < i)
abbrev geD := cmpD fun i j => decide (j ≤ i)
theorem opd_cmp {p : Int → Int → Bool} : OpD Γ (rI0 fun i j => .bl (p i j)) (cmpD p) := opd_i20 (f := fun i j => .bl (p i j)) fun _ _ _ _ => rfl
theorem de_lt (ha : DE X Γ a ma) (hb : DE X Γ b mb) : DE X Γ (.Compare a [.Lt] [b] pos) (eB ltD ma mb) := de_cmp op_lt opd_cmp ha hb
theorem de_le (ha : DE X Γ a ma) (hb : DE X Γ b mb) : DE X Γ (.Compare a [.LtE] [b] pos) (eB leD ma mb) := de_cmp op_le opd_cmp ha hb
theorem de_gt (ha : DE X Γ a ma) (hb : DE X Γ b mb) : DE X Γ (.Compare a [.Gt] [b] pos) (eB gtD ma mb) := de_cmp op_gt opd_cmp ha hb
theorem de_ge (ha : DE X Γ a ma) (hb : DE X Γ b mb) : DE X Γ (.Compare a [.GtE] [b] pos) (eB geD ma mb) := de_cmp op_ge opd_cmp ha hb
theorem dt_lt (ha : DE X Γ a ma) (hb : DE X Γ b mb) : DT X Γ (.Compare a [.Lt] [b] pos) (tT (eB ltD ma mb)) := dt_cmp op_lt opd_cmp ha hb
theorem dt_le (ha : DE X Γ a ma) (hb : DE X Γ b mb) : DT X Γ (.Compare a [.LtE] [b] pos) (tT (eB leD ma mb)) := dt_cmp op_le opd_cmp ha hb
theorem dt_gt (ha : DE X Γ a ma) (hb : DE X Γ b mb) : DT X Γ (.Compare a [.Gt] [b] pos) (tT (eB gtD ma mb)) := dt_cmp op_gt opd_cmp ha hb
theorem dt_ge (ha : DE X Γ a ma) (hb : DE X Γ b mb) : DT X Γ (.Compare a [.GtE] [b] pos) (tT (eB geD ma mb)) := dt_cmp op_ge opd_cmp ha hb

/-! ### equality -/
mutual
def py : D → PyData
  | .non => .none
  | .bl b => .bool b
  | .int i => .int i
  | .str x => .str x
  | .tup ds => .tuple (pys ds)
  | .lst ds => .list (pys ds)
  | .dct _ _ => .dict []
  | .scr _ => .dict []
  | .ob _ => .dict []
  | .fn _ => .dict []
def pys : List D → List PyData
  | [] => []
  | d :: ds => py d :: pys ds
end
/-- no dict, no object within n nestings -/
def shp : Nat → D → Bool
  | _, .non => true
  | _, .bl _ => true
  | _, .int _ => true
  | _, .str _ => true
  | n + 1, .tup ds => ds.all (shp n)
  | n + 1, .lst ds => ds.all (shp n)
  | _, _ => false
theorem pys_all {n : Nat} (ih : ∀ d, shp n d = true → (py d).plain = true ∧ (py d).depth ≤ n) : ∀ ds : List D, ds.all (shp n) = true → PyData.plainAll (pys ds) = true ∧ PyData.depthAll (pys ds) ≤ n
  | [], _ => by simp [pys, PyData.plainAll, PyData.depthAll]
  | d :: ds, h => by
    rw [List.all_cons, Bool.and_eq_true] at h
    obtain ⟨h1, h2⟩ := ih d h.1
    obtain ⟨h3, h4⟩ := pys_all ih ds h.2
    refine ⟨by simp [pys, PyData.plainAll, h1, h3], ?_⟩
    simp only [pys, PyData.depthAll]
    exact Nat.max_le.mpr ⟨h2, h4⟩
theorem shp_py : ∀ (n : Nat) (d : D), shp n d = true → (py d).plain = true ∧ (py d).depth ≤ n
  | 0, d, h => by cases d <;> simp [shp] at h <;> simp [py, PyData.plain, PyData.depth]
  | n + 1, d, h => by
    cases d with
    | tup ds =>
      obtain ⟨h1, h2⟩ := pys_all (fun d h => shp_py n d h) ds (by simpa [shp] using h)
      exact ⟨by simpa [py, PyData.plain] using h1, by simp only [py, PyData.depth]; omega⟩
    | lst ds =>
      obtain ⟨h1, h2⟩ := pys_all (fun d h => shp_py n d h) ds (by simpa [shp] using h)
      exact ⟨by simpa [py, PyData.plain] using h1, by simp only [py, PyData.depth]; omega⟩
    | _ => simp [shp] at h <;> simp [py, PyData.plain, PyData.depth]
mutual
theorem Rp.dp {g : Gm} {K : PySem.W.Frag} {ι : List Addr} {F H : Hp} (k : Sb F H) : ∀ (d : D) (v : V), Rp g ι F d v → (py d).plain = true → Dp K H v (py d)
  | .non, _, h, _ => by cases h; exact .non
  | .bl b, _, h, _ => by cases h; exact .bl b
  | .int i, _, h, _ => by cases h; exact .int i
  | .str x, _, h, _ => by cases h; exact .str x
  | .tup ds, v, ⟨a, vs, e, h1, h2⟩, p => by
    subst e
    exact .tup (.inl (.inl (k.ex h1))) (RpL.dp k ds vs h2 (by simpa [py, PyData.plain] using p))
  | .lst ds, v, ⟨a, vs, e, h1, h2⟩, p => by
    subst e
    exact .lst (.inl (.inl (k.ex h1))) (RpL.dp k ds vs h2 (by simpa [py, PyData.plain] using p))
  | .dct _ _, _, _, p => by simp [py, PyData.plain] at p
  | .scr _, _, _, p => by simp [py, PyData.plain] at p
  | .ob _, _, _, p => by simp [py, PyData.plain] at p
  | .fn _, _, _, p => by simp [py, PyData.plain] at p
theorem RpL.dp {g : Gm} {K : PySem.W.Frag} {ι : List Addr} {F H : Hp} (k : Sb F H) : ∀ (ds : List D) (vs : List V), RpL g ι F ds vs → PyData.plainAll (pys ds) = true → DpAll K H vs (pys ds)
  | [], _, h, _ => by cases h; exact .nil
  | d :: ds, _, ⟨v, r, e, h1, h2⟩, p => by
    subst e
    simp only [pys, PyData.plainAll, Bool.and_eq_true] at p
    exact .cons (Rp.dp k d v h1 p.1) (RpL.dp k ds r h2 p.2)
end
def rEqP (K : PySem.W.Frag) (neg : Bool) : R2 := fun x y H Q => ∃ d e, Dp K H x d ∧ Dp K H y e ∧ d.plain = true ∧ e.plain = true ∧ d.depth ≤ 64 ∧ Q (.bl (if neg then !PyData.eqv d e else PyData.eqv d e)) H
theorem op_eqP (hu : X.A.units + 64 < cLine) : OpR X (compareOp .Eq) (rEqP X.K false) := by
  intro pins s σ H x y v u Q I rx ry h
  obtain ⟨d, e, hd, he, sd, se, dd, q⟩ := h
  obtain ⟨as, r1⟩ := Dp.reads I d x v hd rx
  obtain ⟨bs, r2⟩ := Dp.reads I e y u he ry
  exact SeqAt.eq_plain r1 r2 sd se (by omega) ⟨.bl _, H, I, rfl, q⟩
theorem op_neP (hu : X.A.units + 64 < cLine) : OpR X (compareOp .NotEq) (rEqP X.K true) := by
  intro pins s σ H x y v u Q I rx ry h
  obtain ⟨d, e, hd, he, sd, se, dd, q⟩ := h
  obtain ⟨as, r1⟩ := Dp.reads I d x v hd rx
  obtain ⟨bs, r2⟩ := Dp.reads I e y u he ry
  exact SeqAt.ne_plain r1 r2 sd se (by omega) ⟨.bl _, H, I, rfl, q⟩
def eqB (x y : D) : Bool := PyData.eqv (py x) (py y)
def eqD (x y : D) : M D := if shp 12 x && shp 12 y then M.ret (.bl (eqB x y)) else M.no
def neD (x y : D) : M D := if shp 12 x && shp 12 y then M.ret (.bl (!eqB x y)) else M.no
theorem opd_eq {K : PySem.W.Frag} : OpD Γ (rEqP K false) eqD := by
  intro w ι F σ H x y vx vy Q S rx ry h
  unfold eqD at h
  split at h
  · rename_i e
    rw [Bool.and_eq_true] at e
    obtain ⟨h1, h2⟩ := shp_py _ _ e.1
    obtain ⟨h3, h4⟩ := shp_py _ _ e.2
    exact ⟨py x, py y, Rp.dp S.sub _ _ rx h1, Rp.dp S.sub _ _ ry h3, h1, h3, by omega, S.po h rfl⟩
  · exact h.elim
theorem opd_ne {K : PySem.W.Frag} : OpD Γ (rEqP K true) neD := by
  intro w ι F σ H x y vx vy Q S rx ry h
  unfold neD at h
  split at h
  · rename_i e
    rw [Bool.and_eq_true] at e
    obtain ⟨h1, h2⟩ := shp_py _ _ e.1
    obtain ⟨h3, h4⟩ := shp_py _ _ e.2
    exact ⟨py x, py y, Rp.dp S.sub _ _ rx h1, Rp.dp S.sub _ _ ry h3, h1, h3, by omega, S.po h rfl⟩
  · exact h.elim
theorem de_eq (hu : X.A.units + 64 < cLine) (ha : DE X Γ a ma) (hb : DE X Γ b mb) : DE X Γ (.Compare a [.Eq] [b] pos) (eB eqD ma mb) := de_cmp (op_eqP hu) opd_eq ha hb
theorem de_ne (hu : X.A.units + 64 < cLine) (ha : DE X Γ a ma) (hb : DE X Γ b mb) : DE X Γ (.Compare a [.NotEq] [b] pos) (eB neD ma mb) := de_cmp (op_neP hu) opd_ne ha hb
theorem dt_eq (hu : X.A.units + 64 < cLine) (ha : DE X Γ a ma) (hb : DE X Γ b mb) : DT X Γ (.Compare a [.Eq] [b] pos) (tT (eB eqD ma mb)) := dt_cmp (op_eqP hu) opd_eq ha hb
theorem dt_ne (hu : X.A.units + 64 < cLine) (ha : DE X Γ a ma) (hb : DE X Γ b mb) : DT X Γ (.Compare a [.NotEq] [b] pos) (tT (eB neD ma mb)) := dt_cmp (op_neP hu) opd_ne ha hb

/-! ### is None, is True -/
def isN : D → Bool
  | .non => true
  | _ => false
theorem Rp.isN {g : Gm} {ι : List Addr} {F : Hp} {d : D} {v : V} (h : Rp g ι F d v) : decide (v = .non) = isN d := by
  cases d with
  | non => cases h; rfl
  | bl b => cases h; rfl
  | int i => cases h; rfl
  | str x => cases h; rfl
  | tup ds => obtain ⟨a, vs, rfl, _⟩ := h; rfl
  | lst ds => obtain ⟨a, vs, rfl, _⟩ := h; rfl
  | dct t ks => obtain ⟨a, o, vs, rfl, _⟩ := h; rfl
  | scr ns => obtain ⟨a, rfl, _⟩ := h; rfl
  | ob n => obtain ⟨a, _, rfl⟩ := h; rfl
  | fn a => cases h; rfl
def eIsN (m : M D) : M D := m.bnd fun d => M.ret (.bl (isN d))
def eNotN (m : M D) : M D := m.bnd fun d => M.ret (.bl (!isN d))
theorem tIsN_of {σ : L2.St} {H : Hp} {Q : VK} (h : tD Γ (eIsN ma) σ H Q) : tIsN (tD Γ ma) σ H Q := by
  obtain ⟨w, ι, F, S, h⟩ := h
  refine ⟨w, ι, F, S, (RR.bnd h).mono fun x w1 h1 => ?_⟩
  intro ι1 F1 H1 v1 S1 l1 r1
  rw [r1.isN]
  exact h1 ι1 F1 H1 _ S1 l1 rfl
theorem tNotN_of {σ : L2.St} {H : Hp} {Q : VK} (h : tD Γ (eNotN ma) σ H Q) : tNotN (tD Γ ma) σ H Q := by
  obtain ⟨w, ι, F, S, h⟩ := h
  refine ⟨w, ι, F, S, (RR.bnd h).mono fun x w1 h1 => ?_⟩
  intro ι1 F1 H1 v1 S1 l1 r1
  rw [r1.isN]
  exact h1 ι1 F1 H1 _ S1 l1 rfl
theorem de_isN {j pos'} (ha : DE X Γ a ma) : DE X Γ (.Compare a [.Is] [.Constant .none j pos'] pos) (eIsN ma) := ⟨(pe_cmp (pc_isN ha.pe)).imp fun _ _ _ h => tIsN_of h⟩
theorem de_notN {j pos'} (ha : DE X Γ a ma) : DE X Γ (.Compare a [.IsNot] [.Constant .none j pos'] pos) (eNotN ma) := ⟨(pe_cmp (pc_notN ha.pe)).imp fun _ _ _ h => tNotN_of h⟩
theorem dt_isN {j pos'} (ha : DE X Γ a ma) : DT X Γ (.Compare a [.Is] [.Constant .none j pos'] pos) (tT (eIsN ma)) := ⟨(pt_cmp (pc_isN ha.pe)).imp fun _ _ _ h => tTest_of (fun _ _ _ q => tIsN_of q) h⟩
theorem dt_notN {j pos'} (ha : DE X Γ a ma) : DT X Γ (.Compare a [.IsNot] [.Constant .none j pos'] pos) (tT (eNotN ma)) := ⟨(pt_cmp (pc_notN ha.pe)).imp fun _ _ _ h => tTest_of (fun _ _ _ q => tNotN_of q) h⟩
def b2 (f : Bool → Bool → Bool) : D → D → M D
  | .bl i, .bl j => M.ret (.bl (f i j))
  | _, _ => M.no
def isD : D → D → M D := b2 fun i j => decide (i = j)
def isnotD : D → D → M D := b2 fun i j => !decide (i = j)
theorem opd_is : OpD Γ rIsB isD := by
  intro w ι F σ H x y vx vy Q S rx ry h
  unfold isD b2 at h
  split at h
  · cases rx; cases ry
    exact ⟨_, _, rfl, rfl, S.po h rfl⟩
  · exact h.elim
theorem opd_isnot : OpD Γ rNotB isnotD := by
  intro w ι F σ H x y vx vy Q S rx ry h
  unfold isnotD b2 at h
  split at h
  · cases rx; cases ry
    exact ⟨_, _, rfl, rfl, S.po h rfl⟩
  · exact h.elim
theorem de_is (ha : DE X Γ a ma) (hb : DE X Γ b mb) : DE X Γ (.Compare a [.Is] [b] pos) (eB isD ma mb) := de_cmp op_isBl opd_is ha hb
theorem de_isnot (ha : DE X Γ a ma) (hb : DE X Γ b mb) : DE X Γ (.Compare a [.IsNot] [b] pos) (eB isnotD ma mb) := de_cmp op_notBl opd_isnot ha hb
theorem dt_is (ha : DE X Γ a ma) (hb : DE X Γ b mb) : DT X Γ (.Compare a [.Is] [b] pos) (tT (eB isD ma mb)) := dt_cmp op_isBl opd_is ha hb
theorem dt_isnot (ha : DE X Γ a ma) (hb : DE X Γ b mb) : DT X Γ (.Compare a [.IsNot] [b] pos) (tT (eB isnotD ma mb)) := dt_cmp op_notBl opd_isnot ha hb

/-! ### chains -/
def eCh (f g : D → D → M D) (ma mb mc : M D) : M D := ma.bnd fun x => mb.bnd fun y => (f x y).bnd fun z => (isB z).bnd fun k => if k = true then mc.bnd fun u => g y u else M.ret (.bl false)
theorem tChain_of {r r' : R2} {f g : D → D → M D} {c : Expr} {mc : M D} (hf : OpD Γ r f) (hg : OpD Γ r' g) {σ : L2.St} {H : Hp} {Q : VK} (h : tD Γ (eCh f g ma mb mc) σ H Q) : tChain r r' (tD Γ ma) (tD Γ mb) (tD Γ mc) σ H Q := by
  obtain ⟨w, ι, F, S, h⟩ := h
  refine ⟨w, ι, F, S, (RR.bnd h).mono fun x w1 h1 => ?_⟩
  intro ι1 F1 H1 v1 S1 l1 r1
  refine ⟨w1, ι1, F1, S1, (RR.bnd h1).mono fun y w2 h2 => ?_⟩
  intro ι2 F2 H2 v2 S2 l2 r2
  refine hf S2 (Rp.mono l2 _ _ r1) r2 ((RR.bnd h2).mono fun z w3 h3 => ?_)
  intro ι3 F3 H3 v3 S3 l3 r3
  cases z with
  | bl k =>
    refine ⟨k, r3, ?_⟩
    have h4 : RR Γ ((if k = true then mc.bnd fun u => g y u else M.ret (.bl false)) w3) (Po Γ ι F σ Q) := h3
    cases k with
    | true =>
      rw [if_pos rfl] at h4 ⊢
      refine ⟨w3, ι3, F3, S3, (RR.bnd h4).mono fun u w4 h4 => ?_⟩
      intro ι4 F4 H4 v4 S4 l4 r4
      exact hg S4 (Rp.mono (l3.trans l4) _ _ r2) r4 (h4.mono fun z w5 h5 => h5.le ((l1.trans l2).trans (l3.trans l4)))
    | false =>
      rw [if_neg Bool.false_ne_true] at h4 ⊢
      exact h4 ι3 F3 H3 _ S3 ((l1.trans l2).trans l3) rfl
  | _ => exact h3.elim
theorem de_chain {op op' : CmpOp} {r r' : R2} {f g : D → D → M D} {c : Expr} {mc : M D} (ho : OpR X (compareOp op) r) (ho' : OpR X (compareOp op') r') (hf : OpD Γ r f) (hg : OpD Γ r' g) (ha : DE X Γ a ma) (hb : DE X Γ b mb) (hc : DE X Γ c mc)
    (hm : lastMarks [op, op'] [b, c] = false := by with_unfolding_all rfl) : DE X Γ (.Compare a [op, op'] [b, c] pos) (eCh f g ma mb mc) :=
  ⟨(pe_chain ho ho' ha.pe hb.pe hc.pe hm).imp fun _ _ _ h => tChain_of (c := c) hf hg h⟩
theorem dt_chain {op op' : CmpOp} {r r' : R2} {f g : D → D → M D} {c : Expr} {mc : M D} (ho : OpR X (compareOp op) r) (ho' : OpR X (compareOp op') r') (hf : OpD Γ r f) (hg : OpD Γ r' g) (ha : DE X Γ a ma) (hb : DE X Γ b mb) (hc : DE X Γ c mc)
    (hm : lastMarks [op, op'] [b, c] = false := by with_unfolding_all rfl) : DT X Γ (.Compare a [op, op'] [b, c] pos) (tT (eCh f g ma mb mc)) :=
  ⟨(pt_chain ho ho' ha.pe hb.pe hc.pe hm).imp fun _ _ _ h => tTest_of (fun _ _ _ q => tChain_of (c := c) hf hg q) h⟩
end
end Dl


set_option Elab.async false
set_option linter.all false
set_option maxRecDepth 100000
set_option maxHeartbeats 4000000
namespace Dl
open PySem PySem.Spec PyProof.Rows L2

section
variable {X : Cx} {Γ : Fr} {a b c : Expr} {ma mb mc : M D} {na nb nc : M Bool} {pos : Pos} {rest : List Expr}
/-! ### truth -/
def truD : D → M Bool
  | .non => M.ret false
  | .bl b => M.ret b
  | .int i => M.ret (i != 0)
  | .str x => if x.length ≤ sizeLine then M.ret ((x.length : Int) != 0) else M.no
  | .tup ds => M.ret (!ds.isEmpty)
  | .lst ds => M.ret (!ds.isEmpty)
  | _ => M.no
theorem isEmpty_len {α β : Type} {xs : List α} {ys : List β} (h : xs.length = ys.length) : xs.isEmpty = ys.isEmpty := by
  cases xs <;> cases ys <;> simp at h <;> rfl
theorem truV_of {K : PySem.W.Frag} {w : W} {ι : List Addr} {F : Hp} {σ : L2.St} {H : Hp} {d : D} {v : V} {Q : Bool → Hp → Prop} (S : SR Γ w ι F σ H) (r : Rp Γ.toGm ι F d v) (h : RR Γ (truD d w) (PoB Γ ι F σ Q)) : ∃ k, TruV K v H k ∧ Q k H := by
  unfold truD at h
  split at h
  · cases r; exact ⟨false, rfl, h ι F H S (Le.refl _ _)⟩
  · cases r; exact ⟨_, rfl, h ι F H S (Le.refl _ _)⟩
  · cases r; exact ⟨_, rfl, h ι F H S (Le.refl _ _)⟩
  · split at h
    · cases r; exact ⟨_, ⟨by assumption, rfl⟩, h ι F H S (Le.refl _ _)⟩
    · exact h.elim
  · obtain ⟨p, vs, rfl, h1, h2⟩ := r
    exact ⟨_, .inr (.inl ⟨vs, .inl (.inl (S.sub.ex h1)), by rw [isEmpty_len h2.length]⟩), h ι F H S (Le.refl _ _)⟩
  · obtain ⟨p, vs, rfl, h1, h2⟩ := r
    exact ⟨_, .inl ⟨vs, .inl (.inl (S.sub.ex h1)), by rw [isEmpty_len h2.length]⟩, h ι F H S (Le.refl _ _)⟩
  · exact h.elim
theorem PoB.le {ι ι1 : List Addr} {F F1 : Hp} {σ : L2.St} {Q : Bool → Hp → Prop} {d : Bool} {w : W} (h : PoB Γ ι F σ Q d w) (l : Le ι F ι1 F1) : PoB Γ ι1 F1 σ Q d w := fun ι' F' H' S l' => h ι' F' H' S (l.trans l')
/-- any value as a test -/
theorem dt_val (ha : DE X Γ a ma) (he : ∀ whole, isTrue a X.env whole = (do let v ← whole; standAt a.pos; holding [v] (truthy v)) := by intro _; rfl) : DT X Γ a (ma.bnd truD) :=
  ⟨(pt_truth ha.pe he).imp fun σ H Q ⟨w, ι, F, S, h⟩ => ⟨w, ι, F, S, (RR.bnd h).mono fun x w1 h1 => by
    intro ι1 F1 H1 v1 S1 l1 r1
    exact truV_of S1 r1 (h1.mono fun k w2 h2 => h2.le l1)⟩⟩
/-- a value that is a bool as a test -/
theorem dt_bool (ha : DE X Γ a ma) (he : ∀ whole, isTrue a X.env whole = (do let v ← whole; standAt a.pos; holding [v] (truthy v)) := by intro _; rfl) : DT X Γ a (tT ma) :=
  ⟨(pt_val ha.pe he).imp fun σ H Q ⟨w, ι, F, S, h⟩ => ⟨w, ι, F, S, (RR.bnd h).mono fun x w1 h1 => by
    intro ι1 F1 H1 v1 S1 l1 r1
    cases x with
    | bl k => exact ⟨k, r1, h1 ι1 F1 H1 S1 l1⟩
    | _ => exact h1.elim⟩⟩

/-! ### and, or, not as tests -/
def tAn (m n : M Bool) : M Bool := m.bnd fun k => if k = true then n else M.ret false
def tOr' (m n : M Bool) : M Bool := m.bnd fun k => if k = true then M.ret true else n
def tNo (m : M Bool) : M Bool := m.bnd fun k => M.ret (!k)
theorem dw_and1 (h : DT X Γ a na) : DW X Γ (.BoolOp .And [a] pos) na := ⟨pw_and1 h.pt⟩
theorem dw_or1 (h : DT X Γ a na) : DW X Γ (.BoolOp .Or [a] pos) na := ⟨pw_or1 h.pt⟩
theorem dw_and (h : DT X Γ a na) (k : DW X Γ (.BoolOp .And (b :: rest) pos) nb) : DW X Γ (.BoolOp .And (a :: b :: rest) pos) (tAn na nb) :=
  ⟨(pw_and h.pt k.pw).imp fun σ H Q ⟨w, ι, F, S, h⟩ => ⟨w, ι, F, S, (RR.bnd h).mono fun x w1 h1 => by
    intro ι1 F1 H1 S1 l1
    cases x with
    | true =>
      rw [if_pos rfl]
      exact ⟨w1, ι1, F1, S1, RR.mono (show RR Γ (nb w1) _ from h1) fun k w2 h2 => h2.le l1⟩
    | false =>
      rw [if_neg Bool.false_ne_true]
      exact (show PoB Γ ι F σ Q false w1 from h1) ι1 F1 H1 S1 l1⟩⟩
theorem dw_or (h : DT X Γ a na) (k : DW X Γ (.BoolOp .Or (b :: rest) pos) nb) : DW X Γ (.BoolOp .Or (a :: b :: rest) pos) (tOr' na nb) :=
  ⟨(pw_or h.pt k.pw).imp fun σ H Q ⟨w, ι, F, S, h⟩ => ⟨w, ι, F, S, (RR.bnd h).mono fun x w1 h1 => by
    intro ι1 F1 H1 S1 l1
    cases x with
    | true =>
      rw [if_pos rfl]
      exact (show PoB Γ ι F σ Q true w1 from h1) ι1 F1 H1 S1 l1
    | false =>
      rw [if_neg Bool.false_ne_true]
      exact ⟨w1, ι1, F1, S1, RR.mono (show RR Γ (nb w1) _ from h1) fun k w2 h2 => h2.le l1⟩⟩⟩
theorem dw_dt (h : DW X Γ a na) : DT X Γ a na := ⟨h.pw.pt⟩
theorem dt_not (h : DT X Γ a na) : DT X Γ (.UnaryOp .Not a pos) (tNo na) :=
  ⟨(pt_not h.pt).imp fun σ H Q ⟨w, ι, F, S, h⟩ => ⟨w, ι, F, S, (RR.bnd h).mono fun x w1 h1 => by
    intro ι1 F1 H1 S1 l1
    exact (show PoB Γ ι F σ Q (!x) w1 from h1) ι1 F1 H1 S1 l1⟩⟩

/-! ### and, or, not as values -/
def eAn (m n : M D) : M D := m.bnd fun d => (truD d).bnd fun k => if k = true then n else M.ret d
def eOr (m n : M D) : M D := m.bnd fun d => (truD d).bnd fun k => if k = true then M.ret d else n
def eNo (m : M D) : M D := m.bnd fun d => (truD d).bnd fun k => M.ret (.bl (!k))
theorem de_one {op} (h : DE X Γ a ma) : DE X Γ (.BoolOp op [a] pos) ma := ⟨pe_one h.pe⟩
theorem de_and (h : DE X Γ a ma) (k : DE X Γ (.BoolOp .And (b :: rest) pos) mb) : DE X Γ (.BoolOp .And (a :: b :: rest) pos) (eAn ma mb) :=
  ⟨(pe_andT h.pe k.pe).imp fun σ H Q ⟨w, ι, F, S, h⟩ => ⟨w, ι, F, S, (RR.bnd h).mono fun x w1 h1 => by
    intro ι1 F1 H1 v1 S1 l1 r1
    have h2 := RR.bnd (show RR Γ ((truD x w1).andThen _) _ from h1)
    unfold truD at h2
    have go : ∀ k : Bool, TruV X.K v1 H1 k → RR Γ ((if k = true then mb else M.ret x) w1) (Po Γ ι F σ Q) → ∃ k, TruV X.K v1 H1 k ∧ if k = true then tD Γ mb σ H1 Q else Q v1 H1 := fun k t q => ⟨k, t, by
      cases k with
      | true => rw [if_pos rfl] at q ⊢; exact ⟨w1, ι1, F1, S1, q.mono fun d w2 h3 => h3.le l1⟩
      | false => rw [if_neg Bool.false_ne_true] at q ⊢; exact (show Po Γ ι F σ Q x w1 from q) ι1 F1 H1 v1 S1 l1 r1⟩
    split at h2
    · cases r1; exact go false rfl h2
    · cases r1; exact go _ rfl h2
    · cases r1; exact go _ rfl h2
    · split at h2
      · cases r1; exact go _ ⟨by assumption, rfl⟩ h2
      · exact h2.elim
    · have r1' := r1
      obtain ⟨p, vs, rfl, q1, q2⟩ := r1
      exact go _ (.inr (.inl ⟨vs, .inl (.inl (S1.sub.ex q1)), by rw [isEmpty_len q2.length]⟩)) h2
    · have r1' := r1
      obtain ⟨p, vs, rfl, q1, q2⟩ := r1
      exact go _ (.inl ⟨vs, .inl (.inl (S1.sub.ex q1)), by rw [isEmpty_len q2.length]⟩) h2
    · exact h2.elim⟩⟩
theorem de_or (h : DE X Γ a ma) (k : DE X Γ (.BoolOp .Or (b :: rest) pos) mb) : DE X Γ (.BoolOp .Or (a :: b :: rest) pos) (eOr ma mb) :=
  ⟨(pe_orT h.pe k.pe).imp fun σ H Q ⟨w, ι, F, S, h⟩ => ⟨w, ι, F, S, (RR.bnd h).mono fun x w1 h1 => by
    intro ι1 F1 H1 v1 S1 l1 r1
    have h2 := RR.bnd (show RR Γ ((truD x w1).andThen _) _ from h1)
    unfold truD at h2
    have go : ∀ k : Bool, TruV X.K v1 H1 k → RR Γ ((if k = true then M.ret x else mb) w1) (Po Γ ι F σ Q) → ∃ k, TruV X.K v1 H1 k ∧ if k = true then Q v1 H1 else tD Γ mb σ H1 Q := fun k t q => ⟨k, t, by
      cases k with
      | false => rw [if_neg Bool.false_ne_true] at q ⊢; exact ⟨w1, ι1, F1, S1, q.mono fun d w2 h3 => h3.le l1⟩
      | true => rw [if_pos rfl] at q ⊢; exact (show Po Γ ι F σ Q x w1 from q) ι1 F1 H1 v1 S1 l1 r1⟩
    split at h2
    · cases r1; exact go false rfl h2
    · cases r1; exact go _ rfl h2
    · cases r1; exact go _ rfl h2
    · split at h2
      · cases r1; exact go _ ⟨by assumption, rfl⟩ h2
      · exact h2.elim
    · have r1' := r1
      obtain ⟨p, vs, rfl, q1, q2⟩ := r1
      exact go _ (.inr (.inl ⟨vs, .inl (.inl (S1.sub.ex q1)), by rw [isEmpty_len q2.length]⟩)) h2
    · have r1' := r1
      obtain ⟨p, vs, rfl, q1, q2⟩ := r1
      exact go _ (.inl ⟨vs, .inl (.inl (S1.sub.ex q1)), by rw [isEmpty_len q2.length]⟩) h2
    · exact h2.elim⟩⟩
theorem de_not (h : DE X Γ a ma) : DE X Γ (.UnaryOp .Not a pos) (eNo ma) :=
  ⟨(pe_notT h.pe).imp fun σ H Q ⟨w, ι, F, S, h⟩ => ⟨w, ι, F, S, (RR.bnd h).mono fun x w1 h1 => by
    intro ι1 F1 H1 v1 S1 l1 r1
    refine truV_of S1 r1 (Q := fun k H' => Q (.bl (!k)) H') ((RR.bnd (show RR Γ ((truD x w1).andThen _) _ from h1)).mono fun k w2 h2 => ?_)
    intro ι2 F2 H2 S2 l2
    exact (show Po Γ ι F σ Q (.bl (!k)) w2 from h2) ι2 F2 H2 _ S2 (l1.trans l2) rfl⟩⟩
/-- a if c else b -/
def eIf (c : M Bool) (m n : M D) : M D := c.bnd fun k => if k = true then m else n
theorem de_if (hc : DT X Γ c nc) (ha : DE X Γ a ma) (hb : DE X Γ b mb) : DE X Γ (.IfExp c a b pos) (eIf nc ma mb) :=
  ⟨(pe_ifExp hc.pt ha.pe hb.pe).imp fun σ H Q ⟨w, ι, F, S, h⟩ => ⟨w, ι, F, S, (RR.bnd h).mono fun x w1 h1 => by
    intro ι1 F1 H1 S1 l1
    cases x with
    | true => rw [if_pos rfl] at h1 ⊢; exact ⟨w1, ι1, F1, S1, h1.mono fun d w2 h2 => h2.le l1⟩
    | false => rw [if_neg Bool.false_ne_true] at h1 ⊢; exact ⟨w1, ι1, F1, S1, h1.mono fun d w2 h2 => h2.le l1⟩⟩⟩

/-! ### arguments, displays -/
variable {e : Expr} {es : List Expr} {me : M D} {ml : M (List D)}
def lN : M (List D) := M.ret []
def lC (m : M D) (l : M (List D)) : M (List D) := m.bnd fun d => l.bnd fun ds => M.ret (d :: ds)
theorem PoL.le {ι ι1 : List Addr} {F F1 : Hp} {σ : L2.St} {Q : List V → Hp → Prop} {d : List D} {w : W} (h : PoL Γ ι F σ Q d w) (l : Le ι F ι1 F1) : PoL Γ ι1 F1 σ Q d w := fun ι' F' H' v S l' r => h ι' F' H' v S (l.trans l') r
theorem da_nil : DA X Γ [] lN := ⟨pa_nil.imp fun σ H Q ⟨w, ι, F, S, h⟩ => h ι F H [] S (Le.refl _ _) rfl⟩
theorem da_cons (he : DE X Γ e me) (hl : DA X Γ es ml) (hs : starEach (e :: es) X.env = (false, eval e X.env) :: starEach es X.env := by rfl) : DA X Γ (e :: es) (lC me ml) :=
  ⟨(pa_cons he.pe hl.pa hs).imp fun σ H Q ⟨w, ι, F, S, h⟩ => ⟨w, ι, F, S, (RR.bnd h).mono fun x w1 h1 => by
    intro ι1 F1 H1 v1 S1 l1 r1
    refine ⟨w1, ι1, F1, S1, (RR.bnd (show RR Γ ((ml w1).andThen _) _ from h1)).mono fun ds w2 h2 => ?_⟩
    intro ι2 F2 H2 vs S2 l2 r2
    exact (show PoL Γ ι F σ Q (x :: ds) w2 from h2) ι2 F2 H2 _ S2 (l1.trans l2) ⟨v1, vs, rfl, Rp.mono l2 _ _ r1, r2⟩⟩⟩
def eTu (l : M (List D)) : M D := l.bnd fun ds => if ds.length ≤ sizeLine then M.ret (.tup ds) else M.no
def eLs (l : M (List D)) : M D := l.bnd fun ds => if ds.length ≤ sizeLine then M.ret (.lst ds) else M.no
theorem de_tup {x1} (hl : DA X Γ es ml) : DE X Γ (.Tuple es x1 pos) (eTu ml) :=
  ⟨(pe_tup hl.pa).imp fun σ H Q ⟨w, ι, F, S, h⟩ => ⟨w, ι, F, S, (RR.bnd h).mono fun ds w1 h1 => by
    intro ι1 F1 H1 vs S1 l1 r1
    split at h1
    · refine ⟨by rw [r1.length]; assumption, fun p hp => ?_⟩
      obtain ⟨S', l⟩ := S1.alloc (o := .tup vs) hp (fun ps e => by cases e)
      exact h1 ι1 _ _ _ S' (l1.trans l) ⟨p, vs, rfl, upd_same, RpL.mono l _ _ r1⟩
    · exact h1.elim⟩⟩
theorem de_lst (hl : DA X Γ es ml) : DE X Γ (.List es pos) (eLs ml) :=
  ⟨(pe_lst hl.pa).imp fun σ H Q ⟨w, ι, F, S, h⟩ => ⟨w, ι, F, S, (RR.bnd h).mono fun ds w1 h1 => by
    intro ι1 F1 H1 vs S1 l1 r1
    split at h1
    · refine ⟨by rw [r1.length]; assumption, fun p hp => ?_⟩
      obtain ⟨S', l⟩ := S1.alloc (o := .lst vs) hp (fun ps e => by cases e)
      exact h1 ι1 _ _ _ S' (l1.trans l) ⟨p, vs, rfl, upd_same, RpL.mono l _ _ r1⟩
    · exact h1.elim⟩⟩

/-! ### built-ins by values -/
/-- the value rule r of a call gives what f says -/
def CallD (Γ : Fr) (r : List V → Hp → VK → Prop) (f : List D → M D) : Prop :=
  ∀ {w : W} {ι : List Addr} {F : Hp} {σ : L2.St} {H : Hp} {xs : List D} {vs : List V} {Q : VK}, SR Γ w ι F σ H → RpL Γ.toGm ι F xs vs → RR Γ (f xs w) (Po Γ ι F σ Q) → r vs H Q
theorem tCB_of {r : List V → Hp → VK → Prop} {f : List D → M D} (hf : CallD Γ r f) {σ : L2.St} {H : Hp} {Q : VK} (h : tD Γ (ml.bnd f) σ H Q) : tCB r (tL Γ ml) σ H Q := by
  obtain ⟨w, ι, F, S, h⟩ := h
  refine ⟨w, ι, F, S, (RR.bnd h).mono fun x w1 h1 => ?_⟩
  intro ι1 F1 H1 v1 S1 l1 r1
  exact hf S1 r1 (h1.mono fun z w3 h3 => h3.le l1)
theorem de_callB {x : Str} {id : String} {p : Pos} {r : List V → Hp → VK → Prop} {f : List D → M D} (hc : CallR X (.builtin id) r) (hf : CallD Γ r f) (hg : Gl X x) (hm : X.mg x = none) (hv : bootBuiltins x = some (.builtin id)) (ha : DA X Γ (e :: es) ml) (hn : x ≠ "__name__" := by decide) (hdb : (x == ("__debug__" : Str)) = false := by decide)
    (he : starEach (e :: es) X.env = (false, eval e X.env) :: starEach es X.env := by rfl) (hpl : (backTo pos (starEach es X.env)).any (·.1) = false := by rfl) : DE X Γ (.Call (.Name x p) (e :: es) [] pos) (ml.bnd f) :=
  ⟨(pe_callB hc hg hm hv ha.pa hn hdb he hpl).imp fun _ _ _ h => tCB_of hf h⟩
theorem de_callTy {x : Str} {T : String} {p : Pos} {r : List V → Hp → VK → Prop} {f : List D → M D} (hc : CallR X (.type T) r) (hf : CallD Γ r f) (hg : Gl X x) (hm : X.mg x = none) (hv : bootBuiltins x = some (.type T)) (ha : DA X Γ (e :: es) ml) (hn : x ≠ "__name__" := by decide) (hdb : (x == ("__debug__" : Str)) = false := by decide)
    (he : starEach (e :: es) X.env = (false, eval e X.env) :: starEach es X.env := by rfl) (hpl : (backTo pos (starEach es X.env)).any (·.1) = false := by rfl) : DE X Γ (.Call (.Name x p) (e :: es) [] pos) (ml.bnd f) :=
  ⟨(pe_callTy hc hg hm hv ha.pa hn hdb he hpl).imp fun _ _ _ h => tCB_of hf h⟩

theorem one_of {g : Gm} {ι : List Addr} {F : Hp} {x : D} {vs : List V} (h : RpL g ι F [x] vs) : ∃ v, vs = [v] ∧ Rp g ι F x v := by
  obtain ⟨v, r, rfl, h1, h2⟩ := h
  cases h2
  exact ⟨v, rfl, h1⟩
theorem two_of {g : Gm} {ι : List Addr} {F : Hp} {x y : D} {vs : List V} (h : RpL g ι F [x, y] vs) : ∃ v u, vs = [v, u] ∧ Rp g ι F x v ∧ Rp g ι F y u := by
  obtain ⟨v, r, rfl, h1, h2⟩ := h
  obtain ⟨u, rfl, h3⟩ := one_of h2
  exact ⟨v, u, rfl, h1, h3⟩
end
end Dl


set_option Elab.async false
set_option linter.all false
set_option maxRecDepth 100000
set_option maxHeartbeats 4000000
namespace Dl
open PySem PySem.Spec PyProof.Rows L2

theorem Rdx.ok {P : Program} {w : World} {H : Hp} {h : Heap} {a : Addr} {o : HO} (r : Rdx H a o) (x : HOk P w H h) : ObjOk P w H h a o := by
  rcases r with r | ⟨_, ob, r⟩
  · exact x a o r
  · exact (x a _ r).2
/-- at a dict's address stands a dict -/
theorem KD.dict {g : Gm} {P : Program} {H : Hp} {h : Heap} {a : Addr} {o : HO} {t : Bool} {ks : List D} {ps : List (V × V)} (k : KD g a o t ks ps) (x : ObjOk P g.w H h a o) : ∃ ob es ep, h.get? a = some ob ∧ ob.ExactDict ∧ ob.data = .dict es ep := by
  cases t with
  | false =>
    obtain ⟨kvs, rfl, e1, e2⟩ := k
    obtain ⟨_, _, vs, kv, ob, es, ep, h1, h2, h3, h4⟩ := x
    exact ⟨ob, es, ep, h1, h2, h3⟩
  | true =>
    obtain ⟨xs, rfl, e1, e2⟩ := k
    obtain ⟨⟨_, _, ys, pr, ob, es, ep, h1, h2, h3, h4, h5⟩, _⟩ := x
    exact ⟨ob, es, ep, h1, h2, h3⟩

section
variable {X : Cx} {Γ : Fr} {a b c : Expr} {ma mb mc : M D} {na nb nc : M Bool} {pos : Pos} {rest : List Expr} {e : Expr} {es : List Expr} {me : M D} {ml : M (List D)}
/-! ### values that are looked at and let go -/
/-- v stands for d now; its top may be an own list or dict -/
def RpN (g : Gm) (ι : List Addr) (F H : Hp) : D → V → Prop
  | .tup ds, v => ∃ a vs, v = .ref a ∧ H a = some (.tup vs) ∧ RpL g ι F ds vs
  | .lst ds, v => ∃ a vs, v = .ref a ∧ H a = some (.lst vs) ∧ RpL g ι F ds vs
  | .dct t ks, v => ∃ a o ps, v = .ref a ∧ Rdx H a o ∧ KD g a o t (ks.map (·.1)) ps ∧ RpK g ι F ks ps
  | d, v => Rp g ι F d v
theorem Rp.now {g : Gm} {ι : List Addr} {F H : Hp} (k : Sb F H) {d : D} {v : V} (h : Rp g ι F d v) : RpN g ι F H d v := by
  cases d with
  | tup ds => obtain ⟨a, vs, e, h1, h2⟩ := h; exact ⟨a, vs, e, k.ex h1, h2⟩
  | lst ds => obtain ⟨a, vs, e, h1, h2⟩ := h; exact ⟨a, vs, e, k.ex h1, h2⟩
  | dct t ks => obtain ⟨a, o, vs, e, h1, h2, h3⟩ := h; exact ⟨a, o, vs, e, k _ _ h1, h2, h3⟩
  | _ => exact h
theorem RpO.now {g : Gm} {ι : List Addr} {F H : Hp} {a : Addr} {d : D} (h : RpO g ι F H a d) : RpN g ι F H d (.ref a) := by
  cases d with
  | lst ds => obtain ⟨vs, h1, h2⟩ := h; exact ⟨a, vs, rfl, h1, h2⟩
  | dct t ks => obtain ⟨o, ps, h1, h2, h3⟩ := h; exact ⟨a, o, ps, rfl, .inl h1, h2, h3⟩
  | _ => exact h.elim
def PoN (Γ : Fr) (ι : List Addr) (F : Hp) (σ : L2.St) (Q : VK) (d : D) (w' : W) : Prop :=
  ∀ ι' F' H' v, SR Γ w' ι' F' σ H' → Le ι F ι' F' → RpN Γ.toGm ι' F' H' d v → Q v H'
def tP (Γ : Fr) (m : M D) : TE := fun σ H Q => ∃ w ι F, SR Γ w ι F σ H ∧ RR Γ (m w) (PoN Γ ι F σ Q)
structure DP (X : Cx) (Γ : Fr) (e : Expr) (m : M D) : Prop where
  pe : PE X e (tP Γ m)
theorem DE.dp (h : DE X Γ e me) : DP X Γ e me := ⟨h.pe.imp fun σ H Q ⟨w, ι, F, S, h⟩ => ⟨w, ι, F, S, h.mono fun d w1 h1 => fun ι1 F1 H1 v1 S1 l1 r1 => h1 ι1 F1 H1 v1 S1 l1 (r1.now S1.sub)⟩⟩
/-- a name's value, looked at -/
def eP (i : Nat) : M D := fun w => match w.sl[i]? with
  | some (some (_, d)) => .ok d w
  | _ => .bad
theorem SR.see {w : W} {ι : List Addr} {F : Hp} {σ : L2.St} {H : Hp} (S : SR Γ w ι F σ H) {i : Nat} {b : Bool} {d : D} (h : w.sl[i]? = some (some (b, d))) : ∃ v, σ[i]? = some (some v) ∧ RpN Γ.toGm ι F H d v := by
  cases b with
  | false => obtain ⟨v, e, r⟩ := S.slot i d h; exact ⟨v, e, r.now S.sub⟩
  | true => obtain ⟨a, e, _, _, _, r⟩ := S.own i d h; exact ⟨_, e, r.now⟩
theorem dp_var {i : Nat} {x : Str} {pos : Pos} (hN : X.N[i]? = some x := by rfl) (hv : Vis X.env.scope x := by first | exact Or.inl rfl | exact Or.inr (Or.inl rfl) | exact Or.inr (Or.inr rfl)) (hd : (x == ("__debug__" : Str)) = false := by decide)
    (hcd : (x == ("__classdict__" : Str)) = false := by decide) : DP X Γ (.Name x pos) (eP i) := by
  refine ⟨(pe_var hN hv hd hcd).imp fun σ H Q ⟨w, ι, F, S, h⟩ => ?_⟩
  unfold eP at h
  split at h
  · rename_i b d q
    obtain ⟨v, e, r⟩ := S.see q
    exact ⟨v, e, (show PoN Γ ι F σ Q d w from h) ι F H v S (Le.refl _ _) r⟩
  · exact h.elim
/-- the value rule r of a call with one argument gives what f says -/
def Call1 (Γ : Fr) (r : List V → Hp → VK → Prop) (f : D → M D) : Prop :=
  ∀ {w : W} {ι : List Addr} {F : Hp} {σ : L2.St} {H : Hp} {x : D} {v : V} {Q : VK}, SR Γ w ι F σ H → RpN Γ.toGm ι F H x v → RR Γ (f x w) (Po Γ ι F σ Q) → r [v] H Q
theorem tCB1_of {r : List V → Hp → VK → Prop} {f : D → M D} (hf : Call1 Γ r f) {σ : L2.St} {H : Hp} {Q : VK} (h : tD Γ (me.bnd f) σ H Q) : tCB r (tCons (tP Γ me) tNil) σ H Q := by
  obtain ⟨w, ι, F, S, h⟩ := h
  refine ⟨w, ι, F, S, (RR.bnd h).mono fun x w1 h1 => ?_⟩
  intro ι1 F1 H1 v1 S1 l1 r1
  exact hf S1 r1 (h1.mono fun z w3 h3 => h3.le l1)
theorem de_call1B {x : Str} {id : String} {p : Pos} {r : List V → Hp → VK → Prop} {f : D → M D} (hc : CallR X (.builtin id) r) (hf : Call1 Γ r f) (hg : Gl X x) (hm : X.mg x = none) (hv : bootBuiltins x = some (.builtin id)) (he : DP X Γ e me)
    (hs : starEach [e] X.env = (false, eval e X.env) :: starEach [] X.env := by rfl) (hn : x ≠ "__name__" := by decide) (hdb : (x == ("__debug__" : Str)) = false := by decide) : DE X Γ (.Call (.Name x p) [e] [] pos) (me.bnd f) :=
  ⟨(pe_callB hc hg hm hv (pa_cons he.pe pa_nil hs) hn hdb hs).imp fun _ _ _ h => tCB1_of hf h⟩
theorem de_call1T {x : Str} {T : String} {p : Pos} {r : List V → Hp → VK → Prop} {f : D → M D} (hc : CallR X (.type T) r) (hf : Call1 Γ r f) (hg : Gl X x) (hm : X.mg x = none) (hv : bootBuiltins x = some (.type T)) (he : DP X Γ e me)
    (hs : starEach [e] X.env = (false, eval e X.env) :: starEach [] X.env := by rfl) (hn : x ≠ "__name__" := by decide) (hdb : (x == ("__debug__" : Str)) = false := by decide) : DE X Γ (.Call (.Name x p) [e] [] pos) (me.bnd f) :=
  ⟨(pe_callTy hc hg hm hv (pa_cons he.pe pa_nil hs) hn hdb hs).imp fun _ _ _ h => tCB1_of hf h⟩

/-! ### len, int, list, tuple -/
def lenF (d : D) : M D := match d with
  | .str x => if x.length ≤ sizeLine then M.ret (.int x.length) else M.no
  | .tup ds => M.ret (.int ds.length)
  | .lst ds => M.ret (.int ds.length)
  | .scr ns => M.ret (.int ns.length)
  | _ => M.no
theorem call1_len {K : PySem.W.Frag} (hK : K = Γ.K) : Call1 Γ (fun xs H Q => ∃ x n, xs = [x] ∧ LenV K x H n ∧ Q (.int n) H) lenF := by
  intro w ι F σ H x v Q S r h
  unfold lenF at h
  split at h
  · split at h
    · cases r; exact ⟨_, _, rfl, ⟨by assumption, rfl⟩, S.po h rfl⟩
    · exact h.elim
  · obtain ⟨p, vs, rfl, h1, h2⟩ := r
    exact ⟨_, vs.length, rfl, .inr ⟨vs, .inl (.inl h1), rfl⟩, by rw [h2.length]; exact S.po h rfl⟩
  · obtain ⟨p, vs, rfl, h1, h2⟩ := r
    exact ⟨_, vs.length, rfl, .inl ⟨vs, .inl (.inl h1), rfl⟩, by rw [h2.length]; exact S.po h rfl⟩
  · obtain ⟨p, rfl, h1⟩ := r
    subst hK
    exact ⟨_, _, rfl, .inl ⟨_, h1.sq S.sub, rfl⟩, by rw [List.length_map]; exact S.po h rfl⟩
  · exact h.elim
theorem de_len {p : Pos} (hK : X.K = Γ.K) (hg : Gl X "len") (hm : X.mg "len" = none) (he : DP X Γ e me) (hs : starEach [e] X.env = (false, eval e X.env) :: starEach [] X.env := by rfl) : DE X Γ (.Call (.Name "len" p) [e] [] pos) (me.bnd lenF) :=
  de_call1B call_len (call1_len hK) hg hm PySem.boot_len he hs
def intF (d : D) : M D := match d with
  | .int i => M.ret (.int i)
  | .bl k => M.ret (.int (if k then 1 else 0))
  | _ => M.no
theorem de_int1 {p : Pos} (hg : Gl X "int") (hm : X.mg "int" = none) (he : DP X Γ e me) (hs : starEach [e] X.env = (false, eval e X.env) :: starEach [] X.env := by rfl) : DE X Γ (.Call (.Name "int" p) [e] [] pos) (me.bnd intF) :=
  de_call1T call_int1 (by
    intro w ι F σ H x v Q S r h
    unfold intF at h
    split at h
    · cases r; exact .inl ⟨_, rfl, S.po h rfl⟩
    · cases r; exact .inr ⟨_, rfl, S.po h rfl⟩
    · exact h.elim) hg hm boot_int he hs
def listF (d : D) : M D := match d with
  | .lst ds => M.ret (.lst ds)
  | .tup ds => M.ret (.lst ds)
  | _ => M.no
def tupleF (d : D) : M D := match d with
  | .lst ds => M.ret (.tup ds)
  | .tup ds => M.ret (.tup ds)
  | _ => M.no
theorem de_list {p : Pos} (hg : Gl X "list") (hm : X.mg "list" = none) (hv : bootBuiltins "list" = some (.type "list")) (he : DP X Γ e me) (hs : starEach [e] X.env = (false, eval e X.env) :: starEach [] X.env := by rfl) : DE X Γ (.Call (.Name "list" p) [e] [] pos) (me.bnd listF) :=
  de_call1T call_list_of (by
    intro w ι F σ H x v Q S r h
    unfold listF at h
    split at h
    · obtain ⟨p, us, rfl, h1, h2⟩ := r
      refine ⟨_, us, rfl, .inl (.inl (.inl h1)), fun l hl => ?_⟩
      obtain ⟨S', l'⟩ := S.alloc (o := .lst us) hl (fun ps e => by cases e)
      exact h ι _ _ _ S' l' ⟨l, us, rfl, upd_same, RpL.mono l' _ _ h2⟩
    · obtain ⟨p, us, rfl, h1, h2⟩ := r
      refine ⟨_, us, rfl, .inr (.inl (.inl h1)), fun l hl => ?_⟩
      obtain ⟨S', l'⟩ := S.alloc (o := .lst us) hl (fun ps e => by cases e)
      exact h ι _ _ _ S' l' ⟨l, us, rfl, upd_same, RpL.mono l' _ _ h2⟩
    · exact h.elim) hg hm hv he hs
/-- a tuple that is looked at is one that nobody writes -/
theorem de_tuple {p : Pos} (hg : Gl X "tuple") (hm : X.mg "tuple" = none) (hv : bootBuiltins "tuple" = some (.type "tuple")) (he : DE X Γ e me) (hs : starEach [e] X.env = (false, eval e X.env) :: starEach [] X.env := by rfl) : DE X Γ (.Call (.Name "tuple" p) [e] [] pos) (me.bnd tupleF) :=
  ⟨(pe_callTy call_tuple_of hg hm hv (pa_cons he.pe pa_nil hs) (he := hs)).imp fun σ H Q ⟨w, ι, F, S, h⟩ => ⟨w, ι, F, S, (RR.bnd h).mono fun d w1 h1 => by
    intro ι1 F1 H1 v1 S1 l1 r1
    show ∃ p ys, [v1] = [V.ref p] ∧ _
    unfold tupleF at h1
    split at h1
    · obtain ⟨p, us, rfl, q1, q2⟩ := r1
      refine ⟨_, us, rfl, .inl ⟨.inl (.inl (S1.sub.ex q1)), fun l hl => ?_⟩⟩
      obtain ⟨S', l'⟩ := S1.alloc (o := .tup us) hl (fun ps e => by cases e)
      exact h1 ι1 _ _ _ S' (l1.trans l') ⟨l, us, rfl, upd_same, RpL.mono l' _ _ q2⟩
    · obtain ⟨p, us, rfl, q1, q2⟩ := r1
      exact ⟨_, us, rfl, .inr ⟨.inl (.inl (S1.sub.ex q1)), h1 ι1 F1 H1 _ S1 l1 ⟨p, us, rfl, q1, q2⟩⟩⟩
    · exact h1.elim⟩⟩
/-- tuple of a list that is looked at -/
def tupleL (d : D) : M D := match d with
  | .lst ds => M.ret (.tup ds)
  | _ => M.no
theorem de_tupleP {p : Pos} (hg : Gl X "tuple") (hm : X.mg "tuple" = none) (hv : bootBuiltins "tuple" = some (.type "tuple")) (he : DP X Γ e me) (hs : starEach [e] X.env = (false, eval e X.env) :: starEach [] X.env := by rfl) : DE X Γ (.Call (.Name "tuple" p) [e] [] pos) (me.bnd tupleL) :=
  de_call1T call_tuple_of (by
    intro w ι F σ H x v Q S r h
    unfold tupleL at h
    split at h
    · obtain ⟨p, us, rfl, h1, h2⟩ := r
      refine ⟨_, us, rfl, .inl ⟨.inl (.inl h1), fun l hl => ?_⟩⟩
      obtain ⟨S', l'⟩ := S.alloc (o := .tup us) hl (fun ps e => by cases e)
      exact h ι _ _ _ S' l' ⟨l, us, rfl, upd_same, RpL.mono l' _ _ h2⟩
    · exact h.elim) hg hm hv he hs

/-! ### min, max of two -/
def minF : List D → M D
  | [.int i, .int j] => M.ret (.int (if j < i then j else i))
  | _ => M.no
def maxF : List D → M D
  | [.int i, .int j] => M.ret (.int (if j > i then j else i))
  | _ => M.no
theorem de_min2 {p : Pos} (hc : X.calm = true) (hg : Gl X "min") (hm : X.mg "min" = none) (hv : bootBuiltins "min" = some (.builtin "min")) (ha : DA X Γ (e :: es) ml) (hs : starEach (e :: es) X.env = (false, eval e X.env) :: starEach es X.env := by rfl) (hpl : (backTo pos (starEach es X.env)).any (·.1) = false := by rfl) : DE X Γ (.Call (.Name "min" p) (e :: es) [] pos) (ml.bnd minF) :=
  de_callB (call_min2 hc) (by
    intro w ι F σ H xs vs Q S r h
    unfold minF at h
    split at h
    · obtain ⟨v, u, rfl, r1, r2⟩ := two_of r
      cases r1; cases r2; exact ⟨_, _, rfl, S.po h rfl⟩
    · exact h.elim) hg hm hv ha (he := hs) (hpl := hpl)
theorem de_max2 {p : Pos} (hc : X.calm = true) (hg : Gl X "max") (hm : X.mg "max" = none) (hv : bootBuiltins "max" = some (.builtin "max")) (ha : DA X Γ (e :: es) ml) (hs : starEach (e :: es) X.env = (false, eval e X.env) :: starEach es X.env := by rfl) (hpl : (backTo pos (starEach es X.env)).any (·.1) = false := by rfl) : DE X Γ (.Call (.Name "max" p) (e :: es) [] pos) (ml.bnd maxF) :=
  de_callB (call_max2 hc) (by
    intro w ι F σ H xs vs Q S r h
    unfold maxF at h
    split at h
    · obtain ⟨v, u, rfl, r1, r2⟩ := two_of r
      cases r1; cases r2; exact ⟨_, _, rfl, S.po h rfl⟩
    · exact h.elim) hg hm hv ha (he := hs) (hpl := hpl)

/-! ### isinstance -/
inductive Ty where | int | bool | tup | lst | str | tl
def tyS : D → Option String
  | .non => some "NoneType"
  | .bl _ => some "bool"
  | .int _ => some "int"
  | .str _ => some "str"
  | .tup _ => some "tuple"
  | .lst _ => some "list"
  | _ => none
def isiD : Ty → D → Option Bool
  | .int, .int _ => some true
  | .int, .bl _ => some true
  | .bool, .bl _ => some true
  | .tup, .tup _ => some true
  | .lst, .lst _ => some true
  | .str, .str _ => some true
  | .tl, .tup _ => some true
  | .tl, .lst _ => some true
  | _, .ob _ => none
  | _, .fn _ => none
  | _, .scr _ => none
  | _, _ => some false
def isiF (t : Ty) (d : D) : M D := match isiD t d with
  | some b => M.ret (.bl b)
  | none => M.no
theorem call_isiDct {T : String} {b : Bool} (hk : kitB "dict" T = some b) {P : Program} {w : World} {pins : List (Addr × Obj)} {σ : L2.St} {s : Shared} {H : Hp} {a : Addr} {Q : VK} {g : Gm} {o : HO} {t : Bool} {ks : List D} {ps : List (V × V)} (I : Inv X pins σ H s) (hw : X.w = g.w)
    (e : Rdx H a o) (k : KD g a o t ks ps) (q : Q (.bl b) H) : wpAny (model X.prog X.w) X.A (call (.builtin "isinstance") [.ref a, .type T]) (EP X pins σ Q) X.xe s := by
  obtain ⟨ob, es, ep, h1, h2, _⟩ := k.dict (P := X.prog) (h := s.heap) (H := H) (hw ▸ e.ok I.hok)
  exact PySem.W.kia_one PySem.W.kitx_dict I.kIn ⟨ob, h1, h2.1⟩ hk (fun z => nomatch z) fun tk => ⟨.bl b, H, I.tok tk, rfl, q⟩
theorem TyX.of {K : PySem.W.Frag} {g : Gm} {ι : List Addr} {F H : Hp} (k : Sb F H) : ∀ {d : D} {v : V} {n : String}, Rp g ι F d v → tyS d = some n → TyX K H v (.type n)
  | .non, _, _, r, h => by cases r; cases h; exact .base .non
  | .bl _, _, _, r, h => by cases r; cases h; exact .base (.bl _)
  | .int _, _, _, r, h => by cases r; cases h; exact .base (.int _)
  | .str _, _, _, r, h => by cases r; cases h; exact .base (.str _)
  | .tup _, _, _, ⟨a, vs, e, h1, _⟩, h => by subst e; cases h; exact .base (.tup (k.ex h1))
  | .lst _, _, _, ⟨a, vs, e, h1, _⟩, h => by subst e; cases h; exact .base (.lst (k.ex h1))
  | .scr _, _, _, _, h => by cases h
  | .dct _ _, _, _, _, h => by cases h
  | .ob _, _, _, _, h => by cases h
  | .fn _, _, _, _, h => by cases h
/-- the answers of isinstance(x, T) by the names of the types -/
def tyT : Ty → String
  | .int => "int"
  | .bool => "bool"
  | .tup => "tuple"
  | .lst => "list"
  | .str => "str"
  | .tl => ""
theorem kit_all : ∀ t : Ty, t ≠ .tl → ∀ d n b, tyS d = some n → isiD t d = some b → kitB n (tyT t) = some b := by
  intro t ht d n b h1 h2
  cases t <;> first | exact absurd rfl ht | (cases d <;> simp [tyS, isiD] at h1 h2 <;> subst h1 <;> subst h2 <;> decide +kernel)
theorem kit_dct : ∀ t : Ty, t ≠ .tl → kitB "dict" (tyT t) = some false := by
  intro t ht
  cases t <;> first | exact absurd rfl ht | decide +kernel
def rIsiD (K : PySem.W.Frag) (g : Gm) (T : String) : List V → Hp → VK → Prop := fun xs H Q => (rIsi K xs H Q) ∨ ∃ a o t ks ps b, xs = [.ref a, .ty T] ∧ Rdx H a o ∧ KD g a o t ks ps ∧ kitB "dict" T = some b ∧ Q (.bl b) H
theorem call_isiD {g : Gm} (hw : X.w = g.w) (T : String) : CallR X (.builtin "isinstance") (rIsiD X.K g T) := by
  intro pins s σ H xs us Q I r h
  rcases h with h | ⟨a, o, t, ks, ps, b, rfl, e, k, hk, q⟩
  · exact call_isi pins s σ H xs us Q I r h
  · obtain ⟨u1, u2, rfl, r1, r2⟩ := vals2 r
    cases (show u1 = Value.ref a from r1)
    cases (show u2 = Value.type T from r2)
    exact call_isiDct (P := X.prog) (w := X.w) hk I hw e k q
theorem de_isi {p p2 : Pos} {x : Str} (t : Ty) (ht : t ≠ .tl) (hw : X.w = Γ.w) (hg : Gl X "isinstance") (hm : X.mg "isinstance" = none) (hv : bootBuiltins "isinstance" = some (.builtin "isinstance")) (hg2 : Gl X x) (hm2 : X.mg x = none) (hv2 : bootBuiltins x = some (.type (tyT t)))
    (he : DE X Γ e me) (hn2 : x ≠ "__name__" := by decide) (hd2 : (x == ("__debug__" : Str)) = false := by decide)
    (hs : starEach [e, .Name x p2] X.env = (false, eval e X.env) :: starEach [.Name x p2] X.env := by rfl) (hs2 : starEach [.Name x p2] X.env = (false, eval (.Name x p2) X.env) :: starEach [] X.env := by rfl) (hpl : (backTo pos (starEach [.Name x p2] X.env)).any (·.1) = false := by rfl) :
    DE X Γ (.Call (.Name "isinstance" p) [e, .Name x p2] [] pos) (me.bnd (isiF t)) :=
  ⟨(pe_callB (call_isiD (g := Γ.toGm) hw (tyT t)) hg hm hv (pa_cons he.pe (pa_cons (pe_bltn (v := .ty (tyT t)) hg2 hm2 hv2 rfl hn2 hd2) pa_nil hs2) hs) (he := hs) (hpl := hpl)).imp fun σ H Q ⟨w, ι, F, S, h⟩ => ⟨w, ι, F, S, (RR.bnd h).mono fun d w1 h1 => by
    intro ι1 F1 H1 v1 S1 l1 r1
    show rIsiD X.K Γ.toGm (tyT t) [v1, .ty (tyT t)] H1 Q
    unfold isiF at h1
    cases q : isiD t d with
    | none => rw [q] at h1; exact h1.elim
    | some b =>
      rw [q] at h1
      have hq : Q (.bl b) H1 := h1 ι1 F1 H1 _ S1 l1 rfl
      cases n : tyS d with
      | some n' => exact .inl ⟨v1, .ty (tyT t), _, _, b, rfl, .ty _, TyX.of S1.sub r1 n, kit_ty (kit_all t ht d n' b n q), hq⟩
      | none =>
        cases d with
        | dct td ks =>
          obtain ⟨a, o, ps, rfl, e1, k1, _⟩ := r1
          have : b = false := by cases t <;> simp [isiD] at q <;> first | exact q.symm | exact q
          subst this
          exact .inr ⟨a, o, td, _, ps, false, rfl, S1.sub _ _ e1, k1, kit_dct t ht, hq⟩
        | ob n => cases t <;> simp [isiD] at q
        | scr n => cases t <;> simp [isiD] at q
        | fn n => cases t <;> simp [isiD] at q
        | _ => simp [tyS] at n⟩⟩
end
end Dl


set_option Elab.async false
set_option linter.all false
set_option maxRecDepth 100000
set_option maxHeartbeats 4000000
namespace Dl
open PySem PySem.Spec PyProof.Rows L2

section
variable {X : Cx} {Γ : Fr} {a b c : Expr} {ma mb mc : M D} {na nb nc : M Bool} {pos : Pos} {rest : List Expr} {e : Expr} {es : List Expr} {me : M D} {ml : M (List D)}
/-! ### subscripts -/
/-- a rule of two values, the first one looked at -/
def OpN (Γ : Fr) (r : R2) (f : D → D → M D) : Prop :=
  ∀ {w : W} {ι : List Addr} {F : Hp} {σ : L2.St} {H : Hp} {x y : D} {vx vy : V} {Q : VK}, SR Γ w ι F σ H → RpN Γ.toGm ι F H x vx → Rp Γ.toGm ι F y vy → RR Γ (f x y w) (Po Γ ι F σ Q) → r vx vy H Q
theorem OpN.opd {r : R2} {f : D → D → M D} (h : OpN Γ r f) : OpD Γ r f := fun S rx ry hq => h S (rx.now S.sub) ry hq
/-- the first one a name, read when the second one is done -/
def eBV (f : D → D → M D) (i : Nat) (mb : M D) : M D := (eP i).bnd fun _ => mb.bnd fun y => (eP i).bnd fun x => f x y
theorem tOpV_of {r : R2} {f : D → D → M D} {i : Nat} (hf : OpN Γ r f) {σ : L2.St} {H : Hp} {Q : VK} (h : tD Γ (eBV f i mb) σ H Q) : tOp r (tVar i) (tD Γ mb) σ H Q := by
  obtain ⟨w, ι, F, S, h⟩ := h
  have h0 := RR.bnd h
  unfold eP at h0
  split at h0
  · rename_i k d q
    obtain ⟨v, e, _⟩ := S.see q
    refine ⟨v, e, w, ι, F, S, (RR.bnd (show RR Γ ((mb w).andThen _) _ from h0)).mono fun y w2 h2 => ?_⟩
    intro ι2 F2 H2 v2 S2 l2 r2
    have h3 := RR.bnd (show RR Γ ((eP i w2).andThen _) _ from h2)
    unfold eP at h3
    split at h3
    · rename_i k2 d2 q2
      obtain ⟨v', e', r'⟩ := S2.see q2
      rw [e] at e'
      cases e'
      exact hf S2 r' r2 (RR.mono h3 fun z w4 h4 => h4.le l2)
    · exact h3.elim
  · exact h0.elim
def ixD : D → D → M D
  | .tup ds, .int i => M.opt (atI ds i)
  | .lst ds, .int i => M.opt (atI ds i)
  | .scr ns, .int i => M.opt ((atI ns i).map D.int)
  | .str z, .int i => if z.length ≤ sizeLine then M.opt ((atI z.cps.toList i).map fun c => D.str ⟨#[c]⟩) else M.no
  | _, _ => M.no
theorem RpL.atI {g : Gm} {ι : List Addr} {F : Hp} {ds : List D} {vs : List V} {i : Int} {d : D} (h : RpL g ι F ds vs) (e : L2.atI ds i = some d) : ∃ v, L2.atI vs i = some v ∧ Rp g ι F d v := by
  unfold L2.atI at e ⊢
  rw [h.length]
  cases q : ixN ds.length i with
  | none => rw [q] at e; cases e
  | some j =>
    rw [q] at e
    exact h.get e
theorem opn_ix {K : PySem.W.Frag} (hK : K = Γ.K) : OpN Γ (rIx K) ixD := by
  intro w ι F σ H x y vx vy Q S rx ry h
  unfold ixD at h
  split at h
  · rename_i ds i
    obtain ⟨p, vs, rfl, h1, h2⟩ := rx
    cases ry
    cases e : L2.atI ds i with
    | none => rw [e] at h; exact h.elim
    | some d =>
      rw [e] at h
      obtain ⟨v, e2, rv⟩ := h2.atI e
      exact .inr (.inl ⟨p, vs, _, v, rfl, rfl, .inl (.inl h1), e2, S.po h rv⟩)
  · rename_i ds i
    obtain ⟨p, vs, rfl, h1, h2⟩ := rx
    cases ry
    cases e : L2.atI ds i with
    | none => rw [e] at h; exact h.elim
    | some d =>
      rw [e] at h
      obtain ⟨v, e2, rv⟩ := h2.atI e
      exact .inl ⟨p, vs, _, v, rfl, rfl, .inl (.inl h1), e2, S.po h rv⟩
  · rename_i ns i
    obtain ⟨p, rfl, h1⟩ := rx
    subst hK
    cases ry
    cases e : L2.atI ns i with
    | none => rw [e] at h; exact h.elim
    | some n =>
      rw [e] at h
      refine .inl ⟨p, ns.map V.int, _, .int n, rfl, rfl, h1.sq S.sub, ?_, S.po h rfl⟩
      unfold L2.atI at e ⊢
      rw [List.length_map]
      cases q : ixN ns.length i with
      | none => rw [q] at e; cases e
      | some j =>
        rw [q] at e
        have e' : ns[j]? = some n := e
        show (ns.map V.int)[j]? = _
        rw [List.getElem?_map, e']
        rfl
  · rename_i z i
    split at h
    · cases rx; cases ry
      cases e : L2.atI z.cps.toList i with
      | none => rw [e] at h; exact h.elim
      | some d =>
        rw [e] at h
        exact .inr (.inr ⟨z, i, d, rfl, rfl, by assumption, e, S.po h rfl⟩)
    · exact h.elim
  · exact h.elim
theorem de_ix (hK : X.K = Γ.K) (ha : DE X Γ a ma) (hb : DE X Γ b mb) (hs : PlainIx b := by exact fun _ _ => rfl) : DE X Γ (.Subscript a b pos) (eB ixD ma mb) := ⟨(pe_ix ix_seq ha.pe hb.pe hs).imp fun _ _ _ h => tOp_of (OpN.opd (opn_ix hK)) h⟩
theorem de_ixV {i : Nat} {x : Str} {pos2 : Pos} (hK : X.K = Γ.K) (hb : DE X Γ b mb) (hs : PlainIx b := by exact fun _ _ => rfl) (hN : X.N[i]? = some x := by rfl) (hv : Vis X.env.scope x := by first | exact Or.inl rfl | exact Or.inr (Or.inl rfl) | exact Or.inr (Or.inr rfl)) (hd : (x == ("__debug__" : Str)) = false := by decide)
    (hcd : (x == ("__classdict__" : Str)) = false := by decide) : DE X Γ (.Subscript (.Name x pos2) b pos) (eBV ixD i mb) :=
  ⟨(pe_ix ix_seq (pe_var hN hv hd hcd) hb.pe hs).imp fun _ _ _ h => tOpV_of (opn_ix hK) h⟩
/-- left operand a name that is looked at: == and != -/
theorem de_cmpV {i : Nat} {x : Str} {pos2 : Pos} {op : CmpOp} {r : R2} {f : D → D → M D} (ho : OpR X (compareOp op) r) (hf : OpN Γ r f) (hb : DE X Γ b mb) (hm : behindInMarks op b = false := by first | exact nomark _ | rfl) (hN : X.N[i]? = some x := by rfl) (hv : Vis X.env.scope x := by first | exact Or.inl rfl | exact Or.inr (Or.inl rfl) | exact Or.inr (Or.inr rfl)) (hd : (x == ("__debug__" : Str)) = false := by decide)
    (hcd : (x == ("__classdict__" : Str)) = false := by decide) : DE X Γ (.Compare (.Name x pos2) [op] [b] pos) (eBV f i mb) :=
  ⟨(pe_cmpR ho (pe_var hN hv hd hcd) hb.pe hm).imp fun _ _ _ h => tOpV_of hf h⟩
theorem dt_cmpV {i : Nat} {x : Str} {pos2 : Pos} {op : CmpOp} {r : R2} {f : D → D → M D} (ho : OpR X (compareOp op) r) (hf : OpN Γ r f) (hb : DE X Γ b mb) (hm : behindInMarks op b = false := by first | exact nomark _ | rfl) (hN : X.N[i]? = some x := by rfl) (hv : Vis X.env.scope x := by first | exact Or.inl rfl | exact Or.inr (Or.inl rfl) | exact Or.inr (Or.inr rfl)) (hd : (x == ("__debug__" : Str)) = false := by decide)
    (hcd : (x == ("__classdict__" : Str)) = false := by decide) : DT X Γ (.Compare (.Name x pos2) [op] [b] pos) (tT (eBV f i mb)) :=
  ⟨(pt_cmpR ho (pe_var hN hv hd hcd) hb.pe hm).imp fun _ _ _ h => tTest_of (fun _ _ _ q => tOpV_of hf q) h⟩
theorem RpN.dp {g : Gm} {K : PySem.W.Frag} {ι : List Addr} {F H : Hp} (k : Sb F H) {d : D} {v : V} (r : RpN g ι F H d v) (p : (py d).plain = true) : Dp K H v (py d) := by
  cases d with
  | tup ds =>
    obtain ⟨a, vs, rfl, h1, h2⟩ := r
    exact .tup (.inl (.inl h1)) (RpL.dp k ds vs h2 (by simpa [py, PyData.plain] using p))
  | lst ds =>
    obtain ⟨a, vs, rfl, h1, h2⟩ := r
    exact .lst (.inl (.inl h1)) (RpL.dp k ds vs h2 (by simpa [py, PyData.plain] using p))
  | dct t ks => simp [py, PyData.plain] at p
  | _ => exact Rp.dp (g := g) (ι := ι) k _ _ r p
theorem opn_eq {K : PySem.W.Frag} : OpN Γ (rEqP K false) eqD := by
  intro w ι F σ H x y vx vy Q S rx ry h
  unfold eqD at h
  split at h
  · rename_i e
    rw [Bool.and_eq_true] at e
    obtain ⟨h1, h2⟩ := shp_py _ _ e.1
    obtain ⟨h3, h4⟩ := shp_py _ _ e.2
    exact ⟨py x, py y, RpN.dp S.sub rx h1, Rp.dp S.sub _ _ ry h3, h1, h3, by omega, S.po h rfl⟩
  · exact h.elim
theorem opn_ne {K : PySem.W.Frag} : OpN Γ (rEqP K true) neD := by
  intro w ι F σ H x y vx vy Q S rx ry h
  unfold neD at h
  split at h
  · rename_i e
    rw [Bool.and_eq_true] at e
    obtain ⟨h1, h2⟩ := shp_py _ _ e.1
    obtain ⟨h3, h4⟩ := shp_py _ _ e.2
    exact ⟨py x, py y, RpN.dp S.sub rx h1, Rp.dp S.sub _ _ ry h3, h1, h3, by omega, S.po h rfl⟩
  · exact h.elim

/-! ### slices -/
structure DO (X : Cx) (Γ : Fr) (e : Option Expr) (m : M (Option Int)) : Prop where
  po : PO X e fun σ H Q => ∃ w ι F, SR Γ w ι F σ H ∧ RR Γ (m w) fun o w' => ∀ ι' F' H', SR Γ w' ι' F' σ H' → Le ι F ι' F' → Q o H'
theorem _root_.L2.PO.imp {X : Cx} {e : Option Expr} {t t' : TO} (h : PO X e t) (k : ∀ σ H Q, t' σ H Q → t σ H Q) : PO X e t' := ⟨fun pins s σ H Q I q => h.run pins s σ H Q I (k _ _ _ q)⟩
def oN : M (Option Int) := M.ret none
def oI (m : M D) : M (Option Int) := m.bnd fun d => match d with
  | .int i => M.ret (some i)
  | _ => M.no
theorem do_none : DO X Γ none oN := ⟨po_none.imp fun σ H Q ⟨w, ι, F, S, h⟩ => h ι F H S (Le.refl _ _)⟩
theorem do_some (h : DE X Γ e me) : DO X Γ (some e) (oI me) := ⟨(po_some h.pe).imp fun σ H Q ⟨w, ι, F, S, h⟩ => ⟨w, ι, F, S, (RR.bnd h).mono fun d w1 h1 => by
  intro ι1 F1 H1 v1 S1 l1 r1
  split at h1
  · exact ⟨_, r1, h1 ι1 F1 H1 S1 l1⟩
  · exact h1.elim⟩⟩
def cutD (xs : List D) (lo hi : Option Int) : List D := (xs.drop (HT.sIx xs.length 0 lo)).take (HT.sIx xs.length xs.length hi - HT.sIx xs.length 0 lo)
theorem RpL.cut {g : Gm} {ι : List Addr} {F : Hp} {ds : List D} {vs : List V} (h : RpL g ι F ds vs) (lo hi : Option Int) : RpL g ι F (cutD ds lo hi) (cutV vs lo hi) := by
  unfold cutD cutV
  rw [h.length]
  exact (h.drop _).take _
def slD (d : D) (lo hi : Option Int) : M D := match d with
  | .tup ds => M.ret (.tup (cutD ds lo hi))
  | .lst ds => M.ret (.lst (cutD ds lo hi))
  | _ => M.no
theorem cutV_whole {xs : List V} {lo hi : Option Int} (h : HT.sIx xs.length 0 lo = 0 ∧ HT.sIx xs.length xs.length hi = xs.length) : cutV xs lo hi = xs := by
  unfold cutV
  rw [h.1, h.2]
  simp
theorem cutD_whole {xs : List D} {lo hi : Option Int} (h : HT.sIx xs.length 0 lo = 0 ∧ HT.sIx xs.length xs.length hi = xs.length) : cutD xs lo hi = xs := by
  unfold cutD
  rw [h.1, h.2]
  simp
theorem sl_of {K : PySem.W.Frag} {w : W} {ι : List Addr} {F : Hp} {σ : L2.St} {H : Hp} {d : D} {v : V} {lo hi : Option Int} {Q : VK} (S : SR Γ w ι F σ H) (r : Rp Γ.toGm ι F d v) (h : RR Γ (slD d lo hi w) (Po Γ ι F σ Q)) : rSlA K v lo hi H Q ∨ rSlL K v lo hi H Q := by
  unfold slD at h
  split at h
  · obtain ⟨p, vs, rfl, h1, h2⟩ := r
    refine .inl ⟨p, vs, rfl, .inl (.inl (S.sub.ex h1)), fun hw => ?_, fun hw q hq => ?_⟩
    · rw [cutD_whole (by rw [← h2.length]; exact hw)] at h
      exact S.po h ⟨p, vs, rfl, h1, h2⟩
    · obtain ⟨S', l'⟩ := S.alloc (o := .tup (cutV vs lo hi)) hq (fun ps e => by cases e)
      exact h ι _ _ _ S' l' ⟨q, _, rfl, upd_same, RpL.mono l' _ _ (h2.cut lo hi)⟩
  · obtain ⟨p, vs, rfl, h1, h2⟩ := r
    refine .inr ⟨p, vs, rfl, .inl (.inl (S.sub.ex h1)), fun q hq => ?_⟩
    obtain ⟨S', l'⟩ := S.alloc (o := .lst (cutV vs lo hi)) hq (fun ps e => by cases e)
    exact h ι _ _ _ S' l' ⟨q, _, rfl, upd_same, RpL.mono l' _ _ (h2.cut lo hi)⟩
  · exact h.elim
def eSl (m : M D) (l u : M (Option Int)) : M D := m.bnd fun d => l.bnd fun lo => u.bnd fun hi => slD d lo hi
theorem de_slice {lo hi : Option Expr} {ml mu : M (Option Int)} {p2 : Pos} (he : DE X Γ e me) (hl : DO X Γ lo ml) (hu : DO X Γ hi mu) : DE X Γ (.Subscript e (.Slice lo hi none p2) pos) (eSl me ml mu) :=
  ⟨(pe_slice (sl_tupA.or sl_list) he.pe hl.po hu.po).imp fun σ H Q ⟨w, ι, F, S, h⟩ => ⟨w, ι, F, S, (RR.bnd h).mono fun d w1 h1 => by
    intro ι1 F1 H1 v1 S1 l1 r1
    refine ⟨w1, ι1, F1, S1, (RR.bnd h1).mono fun lo w2 h2 => ?_⟩
    intro ι2 F2 H2 S2 l2
    refine ⟨w2, ι2, F2, S2, (RR.bnd h2).mono fun hi w3 h3 => ?_⟩
    intro ι3 F3 H3 S3 l3
    exact sl_of S3 (Rp.mono (l2.trans l3) _ _ r1) (h3.mono fun z w4 h4 => h4.le ((l1.trans l2).trans l3))⟩⟩
/-- a name's slice, the name read last -/
theorem slN_of {K : PySem.W.Frag} {w : W} {ι : List Addr} {F : Hp} {σ : L2.St} {H : Hp} {ds : List D} {v : V} {lo hi : Option Int} {Q : VK} (S : SR Γ w ι F σ H) (r : RpN Γ.toGm ι F H (.lst ds) v) (h : RR Γ (slD (.lst ds) lo hi w) (Po Γ ι F σ Q)) : rSlL K v lo hi H Q := by
  obtain ⟨p, vs, rfl, h1, h2⟩ := r
  refine ⟨p, vs, rfl, .inl (.inl h1), fun q hq => ?_⟩
  obtain ⟨S', l'⟩ := S.alloc (o := .lst (cutV vs lo hi)) hq (fun ps e => by cases e)
  exact (show Po Γ ι F σ Q _ w from h) ι _ _ _ S' l' ⟨q, _, rfl, upd_same, RpL.mono l' _ _ (h2.cut lo hi)⟩
def slL (d : D) (lo hi : Option Int) : M D := match d with
  | .lst ds => M.ret (.lst (cutD ds lo hi))
  | _ => M.no
def eSlV (i : Nat) (l u : M (Option Int)) : M D := (eP i).bnd fun _ => l.bnd fun lo => u.bnd fun hi => (eP i).bnd fun d => slL d lo hi
theorem de_sliceV {i : Nat} {x : Str} {pos2 : Pos} {lo hi : Option Expr} {ml mu : M (Option Int)} {p2 : Pos} (hl : DO X Γ lo ml) (hu : DO X Γ hi mu) (hN : X.N[i]? = some x := by rfl) (hv : Vis X.env.scope x := by first | exact Or.inl rfl | exact Or.inr (Or.inl rfl) | exact Or.inr (Or.inr rfl)) (hd : (x == ("__debug__" : Str)) = false := by decide)
    (hcd : (x == ("__classdict__" : Str)) = false := by decide) : DE X Γ (.Subscript (.Name x pos2) (.Slice lo hi none p2) pos) (eSlV i ml mu) :=
  ⟨(pe_slice sl_list (pe_var hN hv hd hcd) hl.po hu.po).imp fun σ H Q ⟨w, ι, F, S, h⟩ => by
    have h0 := RR.bnd h
    unfold eP at h0
    split at h0
    · rename_i k d q
      obtain ⟨v, e, _⟩ := S.see q
      refine ⟨v, e, w, ι, F, S, (RR.bnd (show RR Γ ((ml w).andThen _) _ from h0)).mono fun lo w2 h2 => ?_⟩
      intro ι2 F2 H2 S2 l2
      refine ⟨w2, ι2, F2, S2, (RR.bnd h2).mono fun hi w3 h3 => ?_⟩
      intro ι3 F3 H3 S3 l3
      have h4 := RR.bnd (show RR Γ ((eP i w3).andThen _) _ from h3)
      unfold eP at h4
      split at h4
      · rename_i k2 d2 q2
        obtain ⟨v', e', r'⟩ := S3.see q2
        rw [e] at e'
        cases e'
        have h5 : RR Γ (slL d2 lo hi w3) _ := h4
        unfold slL at h5
        split at h5
        · exact slN_of S3 r' (RR.mono (show RR Γ (slD (.lst _) lo hi w3) _ from h5) fun z w4 h6 => h6.le (l2.trans l3))
        · exact h5.elim
      · exact h4.elim
    · exact h0.elim⟩

/-! ### in, not in -/
def inB (x : D) (ds : List D) : Bool := (pys ds).any fun d => PyData.eqv d (py x)
def inD (neg : Bool) : D → D → M D
  | x, .tup ds => if shp 12 x && ds.all (shp 12) then M.ret (.bl (if neg then !inB x ds else inB x ds)) else M.no
  | x, .lst ds => if shp 12 x && ds.all (shp 12) then M.ret (.bl (if neg then !inB x ds else inB x ds)) else M.no
  | _, _ => M.no
def rInP (K : PySem.W.Frag) (neg : Bool) : R2 := fun x y H Q => ∃ (a : Addr) (vs : List V) (ds : List PyData) (d : PyData), y = .ref a ∧ (SqL K H a vs ∨ SqT K H a vs) ∧ DpAll K H vs ds ∧ Dp K H x d ∧ PyData.plainAll ds = true ∧ d.plain = true ∧ d.depth ≤ 60 ∧
  Q (.bl (if neg then !ds.any (fun y => PyData.eqv y d) else ds.any (fun y => PyData.eqv y d))) H
theorem op_inP (hu : X.A.units + 64 < cLine) : OpR X (compareOp .In) (rInP X.K false) := by
  intro pins s σ H x y v u Q I rx ry h
  obtain ⟨a, vs, ds, d, rfl, hs, hds, hd, sd, se, dd, q⟩ := h
  cases ry
  obtain ⟨as, r1⟩ := Dp.reads I d x v hd rx
  rcases hs with hs | hs
  · obtain ⟨bs, r2⟩ := Dp.reads I (.list ds) (.ref a) (.ref a) (.lst hs hds) rfl
    exact SeqAt.in_list_data r2 r1 sd se (by omega) ⟨.bl _, H, I, rfl, q⟩
  · obtain ⟨bs, r2⟩ := Dp.reads I (.tuple ds) (.ref a) (.ref a) (.tup hs hds) rfl
    exact SeqAt.in_tuple_data r2 r1 sd se (by omega) ⟨.bl _, H, I, rfl, q⟩
theorem op_ninP (hu : X.A.units + 64 < cLine) : OpR X (compareOp .NotIn) (rInP X.K true) := by
  intro pins s σ H x y v u Q I rx ry h
  obtain ⟨a, vs, ds, d, rfl, hs, hds, hd, sd, se, dd, q⟩ := h
  cases ry
  obtain ⟨as, r1⟩ := Dp.reads I d x v hd rx
  rcases hs with hs | hs
  · obtain ⟨bs, r2⟩ := Dp.reads I (.list ds) (.ref a) (.ref a) (.lst hs hds) rfl
    exact SeqAt.notIn_list_data r2 r1 sd se (by omega) ⟨.bl _, H, I, rfl, q⟩
  · obtain ⟨bs, r2⟩ := Dp.reads I (.tuple ds) (.ref a) (.ref a) (.tup hs hds) rfl
    exact SeqAt.notIn_tuple_data r2 r1 sd se (by omega) ⟨.bl _, H, I, rfl, q⟩
/-- a rule of two values, the second one looked at -/
def OpM (Γ : Fr) (r : R2) (f : D → D → M D) : Prop :=
  ∀ {w : W} {ι : List Addr} {F : Hp} {σ : L2.St} {H : Hp} {x y : D} {vx vy : V} {Q : VK}, SR Γ w ι F σ H → Rp Γ.toGm ι F x vx → RpN Γ.toGm ι F H y vy → RR Γ (f x y w) (Po Γ ι F σ Q) → r vx vy H Q
theorem tOpM_of {r : R2} {f : D → D → M D} (hf : OpM Γ r f) {σ : L2.St} {H : Hp} {Q : VK} (h : tD Γ (eB f ma mb) σ H Q) : tOp r (tD Γ ma) (tP Γ mb) σ H Q := by
  obtain ⟨w, ι, F, S, h⟩ := h
  refine ⟨w, ι, F, S, (RR.bnd h).mono fun x w1 h1 => ?_⟩
  intro ι1 F1 H1 v1 S1 l1 r1
  refine ⟨w1, ι1, F1, S1, (RR.bnd h1).mono fun y w2 h2 => ?_⟩
  intro ι2 F2 H2 v2 S2 l2 r2
  exact hf S2 (Rp.mono l2 _ _ r1) r2 (h2.mono fun z w3 h3 => h3.le (l1.trans l2))
theorem opm_in {K : PySem.W.Frag} (neg : Bool) : OpM Γ (rInP K neg) (inD neg) := by
  intro w ι F σ H x y vx vy Q S rx ry h
  have go : ∀ {ds : List D} {vs : List V}, RpL Γ.toGm ι F ds vs → (shp 12 x && ds.all (shp 12)) = true → DpAll K H vs (pys ds) ∧ Dp K H vx (py x) ∧ PyData.plainAll (pys ds) = true ∧ (py x).plain = true ∧ (py x).depth ≤ 60 := fun {ds vs} h2 e => by
    rw [Bool.and_eq_true] at e
    obtain ⟨q1, q2⟩ := shp_py _ _ e.1
    obtain ⟨q3, q4⟩ := pys_all (fun d h => shp_py 12 d h) ds e.2
    exact ⟨RpL.dp S.sub _ _ h2 q3, Rp.dp S.sub _ _ rx q1, q3, q1, by omega⟩
  unfold inD at h
  split at h
  · obtain ⟨p, vs, rfl, h1, h2⟩ := ry
    split at h
    · obtain ⟨q1, q2, q3, q4, q5⟩ := go h2 (by assumption)
      exact ⟨p, vs, _, _, rfl, .inr (.inl (.inl h1)), q1, q2, q3, q4, q5, S.po h rfl⟩
    · exact h.elim
  · obtain ⟨p, vs, rfl, h1, h2⟩ := ry
    split at h
    · obtain ⟨q1, q2, q3, q4, q5⟩ := go h2 (by assumption)
      exact ⟨p, vs, _, _, rfl, .inl (.inl (.inl h1)), q1, q2, q3, q4, q5, S.po h rfl⟩
    · exact h.elim
  · exact h.elim
theorem de_in (hu : X.A.units + 64 < cLine) (ha : DE X Γ a ma) (hb : DP X Γ b mb) (hm : behindInMarks .In b = false := by rfl) : DE X Γ (.Compare a [.In] [b] pos) (eB (inD false) ma mb) :=
  ⟨(pe_cmpR (op_inP hu) ha.pe hb.pe hm).imp fun _ _ _ h => tOpM_of (opm_in false) h⟩
theorem de_nin (hu : X.A.units + 64 < cLine) (ha : DE X Γ a ma) (hb : DP X Γ b mb) (hm : behindInMarks .NotIn b = false := by rfl) : DE X Γ (.Compare a [.NotIn] [b] pos) (eB (inD true) ma mb) :=
  ⟨(pe_cmpR (op_ninP hu) ha.pe hb.pe hm).imp fun _ _ _ h => tOpM_of (opm_in true) h⟩
theorem dt_in (hu : X.A.units + 64 < cLine) (ha : DE X Γ a ma) (hb : DP X Γ b mb) (hm : behindInMarks .In b = false := by rfl) : DT X Γ (.Compare a [.In] [b] pos) (tT (eB (inD false) ma mb)) :=
  ⟨(pt_cmpR (op_inP hu) ha.pe hb.pe hm).imp fun _ _ _ h => tTest_of (fun _ _ _ q => tOpM_of (opm_in false) q) h⟩
theorem dt_nin (hu : X.A.units + 64 < cLine) (ha : DE X Γ a ma) (hb : DP X Γ b mb) (hm : behindInMarks .NotIn b = false := by rfl) : DT X Γ (.Compare a [.NotIn] [b] pos) (tT (eB (inD true) ma mb)) :=
  ⟨(pt_cmpR (op_ninP hu) ha.pe hb.pe hm).imp fun _ _ _ h => tTest_of (fun _ _ _ q => tOpM_of (opm_in true) q) h⟩
end
end Dl


set_option Elab.async false
set_option linter.all false
set_option maxRecDepth 100000
set_option maxHeartbeats 4000000
namespace Dl
open PySem PySem.Spec PyProof.Rows L2

/-! ### changes of the state -/
section
variable {Γ : Fr} {w : W} {ι : List Addr} {F : Hp} {σ : L2.St} {H : Hp}
/-- a slot gets a value that nobody writes -/
theorem SR.setF (S : SR Γ w ι F σ H) {i : Nat} {d : D} {v : V} (hi : i < w.sl.length) (r : Rp Γ.toGm ι F d v) : SR Γ { w with sl := w.sl.set i (some (false, d)) } ι F (σ.set i (some v)) H := by
  have hs : i < σ.length := by rw [← S.slen]; exact hi
  have ow : ∀ (j : Nat) e, (w.sl.set i (some (false, d)))[j]? = some (some (true, e)) → j ≠ i ∧ w.sl[j]? = some (some (true, e)) ∧ (σ.set i (some v))[j]? = σ[j]? := fun j e h => by
    have hj : j ≠ i := by
      rintro rfl
      rw [List.getElem?_set_self hi] at h
      cases h
    rw [List.getElem?_set_ne (Ne.symm hj)] at h
    exact ⟨hj, h, List.getElem?_set_ne (Ne.symm hj)⟩
  refine { S with slen := ?_, slot := fun j e h => ?_, own := fun j e h => ?_, own2 := fun j k e e' b hjk h1 h2 h3 => ?_, hid := fun p hp => ?_ }
  · rw [List.length_set, List.length_set]; exact S.slen
  · by_cases hj : j = i
    · subst hj
      rw [List.getElem?_set_self hi] at h
      cases h
      exact ⟨v, List.getElem?_set_self hs, r⟩
    · rw [List.getElem?_set_ne (Ne.symm hj)] at h ⊢
      exact S.slot j e h
  · obtain ⟨_, h1, h2⟩ := ow j e h
    rw [h2]
    exact S.own j e h1
  · obtain ⟨_, q1, q2⟩ := ow j e h1
    obtain ⟨_, q3, q4⟩ := ow k e' h2
    rw [q2] at h3
    rw [q4]
    exact S.own2 j k e e' b hjk q1 q3 h3
  · obtain ⟨q1, q2, q3, q4, qt⟩ := S.hid p hp
    refine ⟨q1, q2, q3, fun j e h => ?_, qt⟩
    obtain ⟨_, h1, h2⟩ := ow j e h
    rw [h2]
    exact q4 j e h1
/-- p is new to the frame and nobody else's: it may be owned -/
structure Ow (Γ : Fr) (w : W) (ι : List Addr) (F : Hp) (σ : L2.St) (H : Hp) (p : Addr) (d : D) : Prop where
  f : F p = none
  h0 : Γ.H0 p = none
  i : p ∉ ι
  r : RpO Γ.toGm ι F H p d
  o : ∀ (j : Nat) e, w.sl[j]? = some (some (true, e)) → σ[j]? ≠ some (some (V.ref p))
  h : ∀ q ∈ Γ.hid, q.1 ≠ p
theorem SR.setO (S : SR Γ w ι F σ H) {i : Nat} {d : D} {p : Addr} (hi : i < w.sl.length) (o : Ow Γ w ι F σ H p d) : SR Γ { w with sl := w.sl.set i (some (true, d)) } ι F (σ.set i (some (.ref p))) H := by
  have hs : i < σ.length := by rw [← S.slen]; exact hi
  have ne : ∀ {j : Nat} {x : Option (Bool × D)}, j ≠ i → (w.sl.set i (some (true, d)))[j]? = some x → w.sl[j]? = some x ∧ (σ.set i (some (V.ref p)))[j]? = σ[j]? := fun {j x} hj h => by
    rw [List.getElem?_set_ne (Ne.symm hj)] at h
    exact ⟨h, List.getElem?_set_ne (Ne.symm hj)⟩
  refine { S with slen := ?_, slot := fun j e h => ?_, own := fun j e h => ?_, own2 := fun j k e e' b hjk h1 h2 h3 h4 => ?_, hid := fun q hq => ?_ }
  · rw [List.length_set, List.length_set]; exact S.slen
  · by_cases hj : j = i
    · subst hj
      rw [List.getElem?_set_self hi] at h
      cases h
    · obtain ⟨h1, h2⟩ := ne hj h
      rw [h2]
      exact S.slot j e h1
  · by_cases hj : j = i
    · subst hj
      rw [List.getElem?_set_self hi] at h
      cases h
      exact ⟨p, List.getElem?_set_self hs, o.f, o.h0, o.i, o.r⟩
    · obtain ⟨h1, h2⟩ := ne hj h
      rw [h2]
      exact S.own j e h1
  · by_cases hj : j = i
    · subst hj
      rw [List.getElem?_set_self hs] at h3
      cases h3
      obtain ⟨q1, q2⟩ := ne (Ne.symm hjk) h2
      rw [q2] at h4
      exact o.o k e' q1 h4
    · obtain ⟨q1, q2⟩ := ne hj h1
      rw [q2] at h3
      by_cases hk : k = i
      · subst hk
        rw [List.getElem?_set_self hs] at h4
        cases h4
        exact o.o j e q1 h3
      · obtain ⟨q3, q4⟩ := ne hk h2
        rw [q4] at h4
        exact S.own2 j k e e' b hjk q1 q3 h3 h4
  · obtain ⟨q1, q2, q3, q4, qt⟩ := S.hid q hq
    refine ⟨q1, q2, q3, fun j e h => ?_, qt⟩
    by_cases hj : j = i
    · subst hj
      rw [List.getElem?_set_self hs]
      intro z
      cases z
      exact o.h q hq rfl
    · obtain ⟨h1, h2⟩ := ne hj h
      rw [h2]
      exact q4 j e h1
/-- a new object that is not named -/
theorem SR.hide (S : SR Γ w ι F σ H) {p : Addr} {o : HO} (n : H p = none) : SR Γ w ι F σ (upd H p o) := by
  have kH : ∀ a u, H a = some u → upd H p o a = some u := fun a u h => by rw [upd_ne (ne_of_none h n)]; exact h
  refine { S with sub := fun a u h => (S.sub a u h).up (kH a), kp := fun a u h1 h2 h3 => (S.kp a u h1 h2 h3).imp (kH a u) (fun ⟨z, ob, e⟩ => ⟨z, ob, kH a _ e⟩), kt := fun a ps h => ?_, tab := fun P hP => ?_, own := fun i d h => ?_, hid := fun q hq => ?_, sto := fun m u a h1 h2 => ?_ }
  · obtain ⟨ps', e⟩ := S.kt a ps h
    exact ⟨ps', kH _ _ e⟩
  · exact (S.tab P hP).up (fun ps e => kH _ _ e) (fun _ _ e => e) fun a u _ e => kH _ _ e
  · obtain ⟨a, e, f, f0, fi, r⟩ := S.own i d h
    exact ⟨a, e, f, f0, fi, r.keep (Le.refl _ _) (kH a)⟩
  · obtain ⟨q1, q2, q3, q4, qt⟩ := S.hid q hq
    exact ⟨kH _ _ q1, q2, q3, q4, qt⟩
  · obtain ⟨f, r⟩ := S.sto m u a h1 h2
    exact ⟨f, r.keep (Le.refl _ _) (kH a)⟩
theorem SR.ow (S : SR Γ w ι F σ H) {p : Addr} {o : HO} {d : D} (n : H p = none) (r : RpO Γ.toGm ι F (upd H p o) p d) : Ow Γ w ι F σ (upd H p o) p d where
  f := S.freeF n
  h0 := S.free0 n
  i := S.nmem n
  r := r
  o := fun j e h z => by
    obtain ⟨a, e1, _, _, _, q⟩ := S.own j e h
    rw [e1] at z
    cases z
    obtain ⟨u, hu, _⟩ := q.some
    rw [n] at hu
    cases hu
  h := fun q hq z => by
    obtain ⟨q1, _⟩ := S.hid q hq
    rw [z, n] at q1
    cases q1
/-- what may be owned may be named instead -/
theorem SR.adopt (S : SR Γ w ι F σ H) {p : Addr} {d : D} (o : Ow Γ w ι F σ H p d) : ∃ F', SR Γ w ι F' σ H ∧ Le ι F ι F' ∧ Rp Γ.toGm ι F' d (.ref p) := by
  obtain ⟨u, ho, ht⟩ := o.r.some
  have l : Le ι F ι (upd F p u) := Le.upd o.f
  have rp : Rp Γ.toGm ι (upd F p u) d (.ref p) := by
    have r := o.r
    cases d with
    | lst ds =>
      obtain ⟨vs, e1, r1⟩ := r
      rw [ho] at e1
      cases e1
      exact ⟨p, vs, rfl, upd_same, RpL.mono l _ _ r1⟩
    | dct t ks =>
      obtain ⟨o', vs, e1, q, r1⟩ := r
      rw [ho] at e1
      cases e1
      exact ⟨p, u, vs, rfl, upd_same, q, RpK.mono l _ _ r1⟩
    | _ => exact r.elim
  refine ⟨upd F p u, { S with sub := fun b v h1 => ?_, ent := fun b v h1 => l.fo b v (S.ent b v h1), new := fun b v h1 => ?_, tab := fun P hP => (S.tab P hP).up (fun _ e => e) l.fo (fun _ _ _ e => e), ntab := fun b ps => ?_, slot := fun j d' h1 => ?_, own := fun j d' h1 => ?_, hid := fun q hq => ?_, sto := fun n v b h1 h2 => ?_ }, l, rp⟩
  · by_cases hb : b = p
    · subst hb; rw [upd_same] at h1; exact .inl (by rw [← h1]; exact ho)
    · rw [upd_ne hb] at h1; exact S.sub b v h1
  · by_cases hb : b = p
    · subst hb; exact .inr o.h0
    · rw [upd_ne hb] at h1; exact S.new b v h1
  · by_cases hb : b = p
    · subst hb; rw [upd_same]; intro z; exact ht ps (Option.some.inj z)
    · rw [upd_ne hb]; exact S.ntab b ps
  · obtain ⟨v, q1, q2⟩ := S.slot j d' h1
    exact ⟨v, q1, Rp.mono l _ _ q2⟩
  · obtain ⟨b, q1, q2, q3, q4, q5⟩ := S.own j d' h1
    have hb : b ≠ p := by
      rintro rfl
      exact o.o j d' h1 q1
    exact ⟨b, q1, by rw [upd_ne hb]; exact q2, q3, q4, q5.keep l fun _ z => z⟩
  · obtain ⟨q1, q2, q3, q4, qt⟩ := S.hid q hq
    exact ⟨q1, by rw [upd_ne (o.h q hq)]; exact q2, q3, q4, qt⟩
  · obtain ⟨q1, q2⟩ := S.sto n v b h1 h2
    have hb : b ≠ p := by
      rintro rfl
      exact o.i (List.mem_of_getElem? h2)
    exact ⟨by rw [upd_ne hb]; exact q1, q2.keep l fun _ z => z⟩
/-- an own object is written -/
theorem SR.wrO (S : SR Γ w ι F σ H) {i : Nat} {d d' : D} {a : Addr} {o : HO} (h : w.sl[i]? = some (some (true, d))) (ha : σ[i]? = some (some (V.ref a))) (r : RpO Γ.toGm ι F (upd H a o) a d') :
    SR Γ { w with sl := w.sl.set i (some (true, d')) } ι F σ (upd H a o) := by
  have hi : i < w.sl.length := (List.getElem?_eq_some_iff.mp h).1
  obtain ⟨a', e, f, f0, fi, r0⟩ := S.own i d h
  rw [ha] at e
  cases e
  have kH : ∀ b u, b ≠ a → H b = some u → upd H a o b = some u := fun b u hb h => by rw [upd_ne hb]; exact h
  have ne : ∀ {j : Nat} {x : Option (Bool × D)}, j ≠ i → (w.sl.set i (some (true, d')))[j]? = some x → w.sl[j]? = some x := fun {j x} hj h => by
    rw [List.getElem?_set_ne (Ne.symm hj)] at h
    exact h
  have naF : ∀ b u, F b = some u → b ≠ a := fun b u q z => by rw [z, f] at q; cases q
  obtain ⟨u0, hu0, hnt⟩ := r0.some
  refine { S with sub := fun b u q => ?_, kp := fun b u h1 h2 h3 => ?_, kt := fun b ps q => ?_, tab := fun P hP => ?_, slen := by rw [List.length_set]; exact S.slen, slot := fun j e h1 => ?_, own := fun j e h1 => ?_, own2 := fun j k e e' b hjk h1 h2 h3 => ?_, hid := fun q hq => ?_, sto := fun n u b h1 h2 => ?_ }
  · exact (S.sub b u q).up fun x hx => kH b x (naF b u q) hx
  · have hb : b ≠ a := fun z => by rw [z, f0] at h1; cases h1
    exact (S.kp b u h1 h2 h3).imp (kH b u hb) (fun ⟨z, ob, e⟩ => ⟨z, ob, kH b _ hb e⟩)
  · have hb : b ≠ a := fun z => by rw [z, f0] at q; cases q
    obtain ⟨ps', e⟩ := S.kt b ps q
    exact ⟨ps', kH b _ hb e⟩
  · refine (S.tab P hP).up (fun ps e => kH P _ (fun z => ?_) e) (fun _ _ e => e) fun b u z e => kH b _ (naF b u z) e
    rw [z, hu0] at e
    exact hnt ps (Option.some.inj e)
  · have hj : j ≠ i := by
      rintro rfl
      rw [List.getElem?_set_self hi] at h1
      cases h1
    exact S.slot j e (ne hj h1)
  · by_cases hj : j = i
    · subst hj
      rw [List.getElem?_set_self hi] at h1
      cases h1
      exact ⟨a, ha, f, f0, fi, r⟩
    · obtain ⟨b, q1, q2, q3, q4, q5⟩ := S.own j e (ne hj h1)
      have hb : b ≠ a := by
        rintro rfl
        exact S.own2 i j d e b (Ne.symm hj) h (ne hj h1) ha q1
      exact ⟨b, q1, q2, q3, q4, q5.keep (Le.refl _ _) fun x hx => kH b x hb hx⟩
  · have g : ∀ {j : Nat} {e : D}, (w.sl.set i (some (true, d')))[j]? = some (some (true, e)) → ∃ e', w.sl[j]? = some (some (true, e')) := fun {j e} h1 => by
      by_cases hj : j = i
      · subst hj; exact ⟨d, h⟩
      · exact ⟨e, ne hj h1⟩
    obtain ⟨e1, q1⟩ := g h1
    obtain ⟨e2, q2⟩ := g h2
    exact S.own2 j k e1 e2 b hjk q1 q2 h3
  · obtain ⟨q1, q2, q3, q4, qt⟩ := S.hid q hq
    have hb : q.1 ≠ a := fun z => q4 i d h (by rw [z]; exact ha)
    refine ⟨kH _ _ hb q1, q2, q3, fun j e h1 => ?_, qt⟩
    by_cases hj : j = i
    · subst hj; exact q4 j d h
    · exact q4 j e (ne hj h1)
  · obtain ⟨q1, q2⟩ := S.sto n u b h1 h2
    have hb : b ≠ a := by
      rintro rfl
      exact fi (List.mem_of_getElem? h2)
    exact ⟨q1, q2.keep (Le.refl _ _) fun x hx => kH b x hb hx⟩
/-- a stored object is written -/
theorem SR.wrS (S : SR Γ w ι F σ H) {n : Nat} {u u' : SO} {a : Addr} {o : HO} (h : w.st[n]? = some u) (ha : ι[n]? = some a) (hn : ∀ ps, H a ≠ some (.tbl ps)) (r : RpS Γ.toGm Γ.ul ι F (upd H a o) a u') :
    SR Γ { w with st := w.st.set n u' } ι F σ (upd H a o) := by
  have hi : n < w.st.length := (List.getElem?_eq_some_iff.mp h).1
  obtain ⟨f, r0⟩ := S.sto n u a h ha
  have mem : a ∈ ι := List.mem_of_getElem? ha
  have kH : ∀ b u, b ≠ a → H b = some u → upd H a o b = some u := fun b u hb h => by rw [upd_ne hb]; exact h
  have naF : ∀ b u, F b = some u → b ≠ a := fun b u q z => by rw [z, f] at q; cases q
  refine { S with sub := fun b v q => ?_, kp := fun b v h1 h2 h3 => ?_, kt := fun b ps q => ?_, tab := fun P hP => ?_, own := fun j e h1 => ?_, hid := fun q hq => ?_, stl := by rw [List.length_set]; exact S.stl, sto := fun m v b h1 h2 => ?_ }
  · exact (S.sub b v q).up fun x hx => kH b x (naF b v q) hx
  · have hb : b ≠ a := fun z => by
      subst z
      rcases S.inw b mem with q | q
      · exact h2 q
      · rw [q] at h1; cases h1
    exact (S.kp b v h1 h2 h3).imp (kH b v hb) (fun ⟨z, ob, e⟩ => ⟨z, ob, kH b _ hb e⟩)
  · obtain ⟨ps', e⟩ := S.kt b ps q
    have hb : b ≠ a := fun z => by rw [z] at e; exact hn ps' e
    exact ⟨ps', kH b _ hb e⟩
  · exact (S.tab P hP).up (fun ps e => kH P _ (fun z => by rw [z] at e; exact hn ps e) e) (fun _ _ e => e) fun b u z e => kH b _ (naF b u z) e
  · obtain ⟨b, q1, q2, q3, q4, q5⟩ := S.own j e h1
    have hb : b ≠ a := fun z => by rw [z] at q4; exact q4 mem
    exact ⟨b, q1, q2, q3, q4, q5.keep (Le.refl _ _) fun x hx => kH b x hb hx⟩
  · obtain ⟨q1, q2, q3, q4, qt⟩ := S.hid q hq
    have hb : q.1 ≠ a := fun z => by rw [z] at q3; exact q3 mem
    exact ⟨kH _ _ hb q1, q2, q3, q4, qt⟩
  · by_cases hm : m = n
    · subst hm
      rw [List.getElem?_set_self hi] at h1
      cases h1
      rw [ha] at h2
      cases h2
      exact ⟨f, r⟩
    · rw [List.getElem?_set_ne (Ne.symm hm)] at h1
      obtain ⟨q1, q2⟩ := S.sto m v b h1 h2
      have hb : b ≠ a := by
        rintro rfl
        obtain ⟨h3, e3⟩ := List.getElem?_eq_some_iff.mp h2
        obtain ⟨h4, e4⟩ := List.getElem?_eq_some_iff.mp ha
        exact hm ((List.getElem_inj S.ind).mp (e3.trans e4.symm))
      exact ⟨q1, q2.keep (Le.refl _ _) fun x hx => kH b x hb hx⟩
end

section
variable {X : Cx} {Γ : Fr} {a b c : Expr} {ma mb mc : M D} {na nb nc : M Bool} {pos : Pos} {rest : List Expr} {e : Expr} {es : List Expr} {me : M D} {ml : M (List D)}
/-! ### new lists -/
/-- an expression whose value is a new list or dict -/
def PoW (Γ : Fr) (ι : List Addr) (F : Hp) (σ : L2.St) (Q : VK) (d : D) (w' : W) : Prop :=
  ∀ ι' F' H' p, SR Γ w' ι' F' σ H' → Le ι F ι' F' → Ow Γ w' ι' F' σ H' p d → Q (.ref p) H'
theorem PoW.le {ι ι1 : List Addr} {F F1 : Hp} {σ : L2.St} {Q : VK} {d : D} {w : W} (h : PoW Γ ι F σ Q d w) (l : Le ι F ι1 F1) : PoW Γ ι1 F1 σ Q d w := fun ι' F' H' v S l' r => h ι' F' H' v S (l.trans l') r
structure DN (X : Cx) (Γ : Fr) (e : Expr) (m : M D) : Prop where
  pe : PE X e fun σ H Q => ∃ w ι F, SR Γ w ι F σ H ∧ RR Γ (m w) (PoW Γ ι F σ Q)
theorem DN.de (h : DN X Γ e me) : DE X Γ e me := ⟨h.pe.imp fun σ H Q ⟨w, ι, F, S, h⟩ => ⟨w, ι, F, S, h.mono fun d w1 h1 => by
  intro ι1 F1 H1 p S1 l1 o1
  obtain ⟨F2, S2, l2, r2⟩ := S1.adopt o1
  exact h1 ι1 F2 H1 _ S2 (l1.trans l2) r2⟩⟩
theorem SR.made {w : W} {ι : List Addr} {F : Hp} {σ : L2.St} {H : Hp} {Q : VK} {ds : List D} {vs : List V} {p : Addr} (S : SR Γ w ι F σ H) (n : H p = none) (r : RpL Γ.toGm ι F ds vs) (h : PoW Γ ι F σ Q (.lst ds) w) : Q (.ref p) (upd H p (.lst vs)) :=
  h ι F _ p (S.hide n) (Le.refl _ _) (S.ow n ⟨vs, upd_same, r⟩)
theorem dn_lst (hl : DA X Γ es ml) : DN X Γ (.List es pos) (eLs ml) :=
  ⟨(pe_lst hl.pa).imp fun σ H Q ⟨w, ι, F, S, h⟩ => ⟨w, ι, F, S, (RR.bnd h).mono fun ds w1 h1 => by
    intro ι1 F1 H1 vs S1 l1 r1
    split at h1
    · refine ⟨by rw [r1.length]; assumption, fun p hp => ?_⟩
      exact S1.made hp r1 (PoW.le h1 l1)
    · exact h1.elim⟩⟩
theorem dn_list {p : Pos} (hg : Gl X "list") (hm : X.mg "list" = none) (hv : bootBuiltins "list" = some (.type "list")) (he : DP X Γ e me) (hs : starEach [e] X.env = (false, eval e X.env) :: starEach [] X.env := by rfl) : DN X Γ (.Call (.Name "list" p) [e] [] pos) (me.bnd listF) :=
  ⟨(pe_callTy call_list_of hg hm hv (pa_cons he.pe pa_nil hs) (he := hs)).imp fun σ H Q ⟨w, ι, F, S, h⟩ => ⟨w, ι, F, S, (RR.bnd h).mono fun d w1 h1 => by
    intro ι1 F1 H1 v1 S1 l1 r1
    show ∃ p ys, [v1] = [V.ref p] ∧ _
    unfold listF at h1
    split at h1
    · obtain ⟨p, us, rfl, q1, q2⟩ := r1
      exact ⟨_, us, rfl, .inl (.inl (.inl q1)), fun l hl => S1.made hl q2 (PoW.le h1 l1)⟩
    · obtain ⟨p, us, rfl, q1, q2⟩ := r1
      exact ⟨_, us, rfl, .inr (.inl (.inl q1)), fun l hl => S1.made hl q2 (PoW.le h1 l1)⟩
    · exact h1.elim⟩⟩
/-- list + list is new -/
def catD : D → D → M D
  | .lst a, .lst b => if a.length + b.length ≤ sizeLine then M.ret (.lst (a ++ b)) else M.no
  | _, _ => M.no
theorem dn_cat (ha : DE X Γ a ma) (hb : DE X Γ b mb) : DN X Γ (.BinOp a .Add b pos) (eB catD ma mb) :=
  ⟨(pe_op op_cat ha.pe hb.pe).imp fun σ H Q ⟨w, ι, F, S, h⟩ => ⟨w, ι, F, S, (RR.bnd h).mono fun x w1 h1 => by
    intro ι1 F1 H1 v1 S1 l1 r1
    refine ⟨w1, ι1, F1, S1, (RR.bnd h1).mono fun y w2 h2 => ?_⟩
    intro ι2 F2 H2 v2 S2 l2 r2
    have r1 := Rp.mono l2 _ _ r1
    unfold catD at h2
    split at h2
    · split at h2
      · rename_i hz
        obtain ⟨p, vs, rfl, q1, q2⟩ := r1
        obtain ⟨q, us, rfl, q3, q4⟩ := r2
        exact ⟨p, q, vs, us, rfl, rfl, S2.sub.ex q1, S2.sub.ex q3, by rw [q2.length, q4.length]; exact hz, fun b hb => S2.made hb (q2.append q4) (PoW.le h2 (l1.trans l2))⟩
      · exact h2.elim
    · exact h2.elim⟩⟩

/-! ### simple statements -/
def sPass : M Fl := M.ret .nx
def sE (m : M D) : M Fl := m.bnd fun _ => M.ret .nx
def sRet (m : M D) : M Fl := m.bnd fun d => M.ret (.rt d)
def sSeq (m n : M Fl) : M Fl := m.bnd fun f => match f with
  | .nx => n
  | f => M.ret f
def sIf (c : M Bool) (m n : M Fl) : M Fl := c.bnd fun k => if k = true then m else n
/-- name = value -/
def setF (i : Nat) (d : D) : M Unit := fun w => if i < w.sl.length then .ok () { w with sl := w.sl.set i (some (false, d)) } else .bad
def setO (i : Nat) (d : D) : M Unit := fun w => if i < w.sl.length then .ok () { w with sl := w.sl.set i (some (true, d)) } else .bad
def sSet (i : Nat) (m : M D) : M Fl := m.bnd fun d => (setF i d).bnd fun _ => M.ret .nx
def sOwn (i : Nat) (m : M D) : M Fl := m.bnd fun d => (setO i d).bnd fun _ => M.ret .nx
theorem ds_pass : DS X Γ (.Pass pos) sPass := ⟨ps_pass.imp fun E σ H ⟨w, ι, F, S, h⟩ => (show PoF Γ ι F E .nx w from h) ι F σ H S (Le.refl _ _)⟩
theorem ds_break : DS X Γ (.Break pos) (M.ret .bk) := ⟨ps_break.imp fun E σ H ⟨w, ι, F, S, h⟩ => (show PoF Γ ι F E .bk w from h) ι F σ H S (Le.refl _ _)⟩
theorem ds_continue : DS X Γ (.Continue pos) (M.ret .ct) := ⟨ps_continue.imp fun E σ H ⟨w, ι, F, S, h⟩ => (show PoF Γ ι F E .ct w from h) ι F σ H S (Le.refl _ _)⟩
theorem ds_expr (he : DE X Γ e me) (hs : swapsWith e none pos.line X.env = pure false := by rfl) : DS X Γ (.Expr e pos) (sE me) :=
  ⟨(ps_expr he.pe hs).imp fun E σ H ⟨w, ι, F, S, h⟩ => ⟨w, ι, F, S, (RR.bnd h).mono fun d w1 h1 => fun ι1 F1 H1 v1 S1 l1 r1 => (show PoF Γ ι F E .nx w1 from h1) ι1 F1 σ H1 S1 l1⟩⟩
theorem ds_doc {x j pos'} : DS X Γ (.Expr (.Constant (.str x) j pos) pos') sPass := ⟨ps_doc.imp fun E σ H ⟨w, ι, F, S, h⟩ => (show PoF Γ ι F E .nx w from h) ι F σ H S (Le.refl _ _)⟩
theorem ds_ret (he : DE X Γ e me) : DS X Γ (.Return (some e) pos) (sRet me) :=
  ⟨(ps_ret he.pe).imp fun E σ H ⟨w, ι, F, S, h⟩ => ⟨w, ι, F, S, (RR.bnd h).mono fun d w1 h1 => fun ι1 F1 H1 v1 S1 l1 r1 => (show PoF Γ ι F E (.rt d) w1 from h1) ι1 F1 σ H1 v1 S1 l1 r1⟩⟩
theorem ds_if {st el : List Stmt} {ms mt : M Fl} (hc : DT X Γ c nc) (ha : DB X Γ st ms) (hb : DB X Γ el mt) : DS X Γ (.If c st el pos) (sIf nc ms mt) :=
  ⟨(ps_if hc.pt ha.ps hb.ps).imp fun E σ H ⟨w, ι, F, S, h⟩ => ⟨w, ι, F, S, (RR.bnd h).mono fun k w1 h1 => by
    intro ι1 F1 H1 S1 l1
    cases k with
    | true => rw [if_pos rfl] at h1 ⊢; exact ⟨w1, ι1, F1, S1, h1.mono fun _ _ q => q.le l1⟩
    | false => rw [if_neg Bool.false_ne_true] at h1 ⊢; exact ⟨w1, ι1, F1, S1, h1.mono fun _ _ q => q.le l1⟩⟩⟩
theorem db_nil : DB X Γ [] sPass := ⟨pss_nil.imp fun E σ H ⟨w, ι, F, S, h⟩ => (show PoF Γ ι F E .nx w from h) ι F σ H S (Le.refl _ _)⟩
theorem db_one {st : Stmt} {m : M Fl} (h : DS X Γ st m) : DB X Γ [st] m := ⟨pss_one h.ps⟩
theorem db_cons {st : Stmt} {r : List Stmt} {m n : M Fl} (h : DS X Γ st m) (k : DB X Γ r n) : DB X Γ (st :: r) (sSeq m n) :=
  ⟨(pss_cons h.ps k.ps).imp fun E σ H ⟨w, ι, F, S, h⟩ => ⟨w, ι, F, S, (RR.bnd h).mono fun f w1 h1 => by
    cases f with
    | nx =>
      intro ι1 F1 σ1 H1 S1 l1
      exact ⟨w1, ι1, F1, S1, RR.mono h1 fun _ _ q => q.le l1⟩
    | bk => exact (show PoF Γ ι F E .bk w1 from h1)
    | ct => exact (show PoF Γ ι F E .ct w1 from h1)
    | rt d => exact (show PoF Γ ι F E (.rt d) w1 from h1)⟩⟩
theorem ds_set {i : Nat} {x : Str} {pos' : Pos} (hN : X.N.Nodup) (hi : X.N[i]? = some x) (hx : Loc X.env.scope x) (he : DE X Γ e me) (hs : swapsWith e (some (.Name x pos')) pos.line X.env = pure false := by rfl) (hf : X.fn x = true ∨ X.env.scope.names.lookup x = some .local := by first | exact .inl rfl | exact .inr rfl) :
    DS X Γ (.Assign [.Name x pos'] e pos) (sSet i me) :=
  ⟨(ps_set hN hi hx he.pe hs hf).imp fun E σ H ⟨w, ι, F, S, h⟩ => ⟨w, ι, F, S, (RR.bnd h).mono fun d w1 h1 => by
    intro ι1 F1 H1 v1 S1 l1 r1
    have h2 := RR.bnd (show RR Γ ((setF i d w1).andThen _) _ from h1)
    unfold setF at h2
    split at h2
    · exact (show PoF Γ ι F E .nx _ from h2) ι1 F1 _ H1 (S1.setF (by assumption) r1) l1
    · exact h2.elim⟩⟩
theorem ds_own {i : Nat} {x : Str} {pos' : Pos} (hN : X.N.Nodup) (hi : X.N[i]? = some x) (hx : Loc X.env.scope x) (he : DN X Γ e me) (hs : swapsWith e (some (.Name x pos')) pos.line X.env = pure false := by rfl) (hf : X.fn x = true ∨ X.env.scope.names.lookup x = some .local := by first | exact .inl rfl | exact .inr rfl) :
    DS X Γ (.Assign [.Name x pos'] e pos) (sOwn i me) :=
  ⟨(ps_set hN hi hx he.pe hs hf).imp fun E σ H ⟨w, ι, F, S, h⟩ => ⟨w, ι, F, S, (RR.bnd h).mono fun d w1 h1 => by
    intro ι1 F1 H1 p S1 l1 o1
    have h2 := RR.bnd (show RR Γ ((setO i d w1).andThen _) _ from h1)
    unfold setO at h2
    split at h2
    · exact (show PoF Γ ι F E .nx _ from h2) ι1 F1 _ H1 (S1.setO (by assumption) o1) l1
    · exact h2.elim⟩⟩
end
end Dl


set_option Elab.async false
set_option linter.all false
set_option maxRecDepth 100000
set_option maxHeartbeats 4000000
namespace Dl
open PySem PySem.Spec PyProof.Rows L2

section
variable {X : Cx} {Γ : Fr} {a b c e : Expr} {ma mb mc me : M D} {na nb nc : M Bool} {pos : Pos} {es : List Expr} {ml : M (List D)}
/-! ### targets -/
def PoU (Γ : Fr) (ι : List Addr) (F : Hp) (Q : L2.St → Hp → Prop) (w' : W) : Prop := ∀ ι' F' σ' H', SR Γ w' ι' F' σ' H' → Le ι F ι' F' → Q σ' H'
structure DG (X : Cx) (Γ : Fr) (tg : Expr) (as : D → M Unit) : Prop where
  pg : PG X tg fun v σ H Q => ∃ w ι F d, SR Γ w ι F σ H ∧ Rp Γ.toGm ι F d v ∧ RR Γ (as d w) fun _ w' => PoU Γ ι F Q w'
structure DGs (X : Cx) (Γ : Fr) (tgs : List Expr) (as : List D → M Unit) : Prop where
  pg : PGs X tgs fun vs σ H Q => ∃ w ι F ds, SR Γ w ι F σ H ∧ RpL Γ.toGm ι F ds vs ∧ RR Γ (as ds w) fun _ w' => PoU Γ ι F Q w'
theorem _root_.L2.PG.imp {X : Cx} {tg : Expr} {t t' : TG} (h : PG X tg t) (k : ∀ v σ H Q, t' v σ H Q → t v σ H Q) : PG X tg t' := ⟨fun pins s σ H v u Q I r q => h.run pins s σ H v u Q I r (k _ _ _ _ q)⟩
theorem _root_.L2.PGs.imp {X : Cx} {tg : List Expr} {t t' : TGs} (h : PGs X tg t) (k : ∀ v σ H Q, t' v σ H Q → t v σ H Q) : PGs X tg t' := ⟨fun pins s σ H v u Q I r q => h.run pins s σ H v u Q I r (k _ _ _ _ q)⟩
theorem dg_name {i : Nat} {x : Str} (hN : X.N.Nodup) (hi : X.N[i]? = some x) (hx : Loc X.env.scope x) (hf : X.fn x = true ∨ X.env.scope.names.lookup x = some .local := by first | exact .inl rfl | exact .inr rfl) : DG X Γ (.Name x pos) (setF i) :=
  ⟨(pg_name hN hi hx hf).imp fun v σ H Q ⟨w, ι, F, d, S, r, h⟩ => by
    unfold setF at h
    split at h
    · exact (show PoU Γ ι F Q _ from h) ι F _ H (S.setF (by assumption) r) (Le.refl _ _)
    · exact h.elim⟩
def tgN : List D → M Unit
  | [] => M.ret ()
  | _ => M.no
def tgC (as : D → M Unit) (bs : List D → M Unit) : List D → M Unit
  | d :: ds => (as d).bnd fun _ => bs ds
  | [] => M.no
def tgT (bs : List D → M Unit) (n : Nat) : D → M Unit
  | .tup ds => if ds.length = n then bs ds else M.no
  | _ => M.no
theorem dgs_nil : DGs X Γ [] tgN := ⟨pgs_nil.imp fun v σ H Q ⟨w, ι, F, ds, S, r, h⟩ => by
  cases ds with
  | nil => cases r; exact ⟨rfl, (show PoU Γ ι F Q w from h) ι F σ H S (Le.refl _ _)⟩
  | cons d ds => exact h.elim⟩
theorem dgs_cons {tg : Expr} {tgs : List Expr} {as : D → M Unit} {bs : List D → M Unit} (h : DG X Γ tg as) (k : DGs X Γ tgs bs) (hs : (assignEach (tg :: tgs) X.env).map (·.2) = assign tg X.env :: (assignEach tgs X.env).map (·.2) := by rfl) : DGs X Γ (tg :: tgs) (tgC as bs) :=
  ⟨(pgs_cons h.pg k.pg hs).imp fun v σ H Q ⟨w, ι, F, ds, S, r, h⟩ => by
    cases ds with
    | nil => exact h.elim
    | cons d ds =>
      obtain ⟨u, vs, rfl, r1, r2⟩ := r
      refine ⟨u, vs, rfl, w, ι, F, d, S, r1, (RR.bnd (show RR Γ ((as d w).andThen _) _ from h)).mono fun _ w1 h1 => ?_⟩
      intro ι1 F1 σ1 H1 S1 l1
      exact ⟨w1, ι1, F1, ds, S1, RpL.mono l1 _ _ r2, RR.mono h1 fun _ w2 h2 => fun ι2 F2 σ2 H2 S2 l2 => h2 ι2 F2 σ2 H2 S2 (l1.trans l2)⟩⟩
theorem dg_tup {tgs : List Expr} {k : Nat} {bs : List D → M Unit} {n : Nat} (hc : X.calm = true) (h : DGs X Γ tgs bs) (hn : (assignEach tgs X.env).length = n := by rfl) (hst : (assignEach tgs X.env).findIdx? (·.1) = none := by rfl) : DG X Γ (.Tuple tgs k pos) (tgT bs n) :=
  ⟨(pg_tup hc h.pg hn hst).imp fun v σ H Q ⟨w, ι, F, d, S, r, h⟩ => by
    unfold tgT at h
    split at h
    · split at h
      · obtain ⟨p, vs, rfl, h1, h2⟩ := r
        exact ⟨p, vs, rfl, .inl (.inl (S.sub.ex h1)), by rw [h2.length]; assumption, w, ι, F, _, S, h2, h⟩
      · exact h.elim
    · exact h.elim⟩
/-- target = value -/
def sAsg (as : D → M Unit) (m : M D) : M Fl := m.bnd fun d => (as d).bnd fun _ => M.ret .nx
theorem ds_asg {tg : Expr} {as : D → M Unit} (he : DE X Γ e me) (hg : DG X Γ tg as) (hs : swapsWithSole [tg] e pos.line X.env = pure false := by rfl) (hw : swappedStores [tg] e X.env = pure none := by rfl)
    (h1 : (assignEach [tg] X.env).map (·.2) = [assign tg X.env] := by rfl) : DS X Γ (.Assign [tg] e pos) (sAsg as me) :=
  ⟨(ps_asg he.pe hg.pg hs hw h1).imp fun E σ H ⟨w, ι, F, S, h⟩ => ⟨w, ι, F, S, (RR.bnd h).mono fun d w1 h1 => by
    intro ι1 F1 H1 v1 S1 l1 r1
    refine ⟨w1, ι1, F1, d, S1, r1, (RR.bnd (show RR Γ ((as d w1).andThen _) _ from h1)).mono fun _ w2 h2 => ?_⟩
    intro ι2 F2 σ2 H2 S2 l2
    exact (show PoF Γ ι F E .nx w2 from h2) ι2 F2 σ2 H2 S2 (l1.trans l2)⟩⟩
/-- a, b = x, y, plain local names -/
def sPar (i j : Nat) (ma mb : M D) : M Fl := ma.bnd fun x => mb.bnd fun y => (setF i x).bnd fun _ => (setF j y).bnd fun _ => M.ret .nx
theorem two_set {w : W} {ι : List Addr} {F : Hp} {σ : L2.St} {H : Hp} {i j : Nat} {x y : D} {v u : V} {E : Ends} (S : SR Γ w ι F σ H) (r1 : Rp Γ.toGm ι F x v) (r2 : Rp Γ.toGm ι F y u)
    (h : RR Γ ((((setF i x).bnd fun _ => (setF j y).bnd fun _ => M.ret Fl.nx) : M Fl) w) (PoF Γ ι F E)) : E.nx ((σ.set i (some v)).set j (some u)) H := by
  have h2 := RR.bnd (show RR Γ ((setF i x w).andThen _) _ from h)
  unfold setF at h2
  split at h2
  · have h3 := RR.bnd (show RR Γ ((setF j y _).andThen _) _ from h2)
    unfold setF at h3
    split at h3
    · exact (show PoF Γ ι F E .nx _ from h3) ι F _ H ((S.setF (by assumption) r1).setF (by assumption) r2) (Le.refl _ _)
    · exact h3.elim
  · exact h2.elim
theorem ds_par {i j : Nat} {x y : Str} {px py pt : Pos} {kt k2 pt2} (hc : X.calm = true) (hN : X.N.Nodup) (hi : X.N[i]? = some x) (hj : X.N[j]? = some y) (hij : i ≠ j)
    (hx : X.env.scope.names.lookup x = some .local) (hy : X.env.scope.names.lookup y = some .local) (ha : DE X Γ a ma) (hb : DE X Γ b mb)
    (hw : swappedStores [.Tuple [.Name x px, .Name y py] kt pt] (.Tuple [a, b] k2 pt2) X.env = pure (some [x, y]) := by rfl)
    (hs : swapsWithSole [.Tuple [.Name x px, .Name y py] kt pt] (.Tuple [a, b] k2 pt2) pos.line X.env = pure false := by rfl)
    (hsa : starEach [a, b] X.env = (false, eval a X.env) :: starEach [b] X.env := by rfl) (hsb : starEach [b] X.env = (false, eval b X.env) :: starEach [] X.env := by rfl) :
    DS X Γ (.Assign [.Tuple [.Name x px, .Name y py] kt pt] (.Tuple [a, b] k2 pt2) pos) (sPar i j ma mb) :=
  ⟨(ps_par hc hN hi hj hij hx hy (pa_cons ha.pe (pa_cons hb.pe pa_nil hsb) hsa) hw hs).imp fun E σ H ⟨w, ι, F, S, h⟩ => ⟨w, ι, F, S, (RR.bnd h).mono fun d w1 h1 => by
    intro ι1 F1 H1 v1 S1 l1 r1
    refine ⟨w1, ι1, F1, S1, (RR.bnd h1).mono fun d2 w2 h2 => ?_⟩
    intro ι2 F2 H2 v2 S2 l2 r2
    exact ⟨v1, v2, rfl, two_set S2 (Rp.mono l2 _ _ r1) r2 (RR.mono h2 fun _ _ q => q.le (l1.trans l2))⟩⟩⟩
/-- .. the second one new -/
def sParO (i j : Nat) (ma mb : M D) : M Fl := ma.bnd fun x => mb.bnd fun y => (setF i x).bnd fun _ => (setO j y).bnd fun _ => M.ret .nx
theorem Ow.setF {w : W} {ι : List Addr} {F : Hp} {σ : L2.St} {H : Hp} {p : Addr} {d e : D} {i : Nat} {v : V} (o : Ow Γ w ι F σ H p d) (hl : w.sl.length = σ.length) (hi : i < w.sl.length) : Ow Γ { w with sl := w.sl.set i (some (false, e)) } ι F (σ.set i (some v)) H p d :=
  ⟨o.f, o.h0, o.i, o.r, fun j e' h z => by
    have h : (w.sl.set i (some (false, e)))[j]? = some (some (true, e')) := h
    have hj : j ≠ i := by
      rintro rfl
      rw [List.getElem?_set_self hi] at h
      cases h
    rw [List.getElem?_set_ne (Ne.symm hj)] at h z
    exact o.o j e' h z, o.h⟩
theorem ds_parO {i j : Nat} {x y : Str} {px py pt : Pos} {kt k2 pt2} (hc : X.calm = true) (hN : X.N.Nodup) (hi : X.N[i]? = some x) (hj : X.N[j]? = some y) (hij : i ≠ j)
    (hx : X.env.scope.names.lookup x = some .local) (hy : X.env.scope.names.lookup y = some .local) (ha : DE X Γ a ma) (hb : DN X Γ b mb)
    (hw : swappedStores [.Tuple [.Name x px, .Name y py] kt pt] (.Tuple [a, b] k2 pt2) X.env = pure (some [x, y]) := by rfl)
    (hs : swapsWithSole [.Tuple [.Name x px, .Name y py] kt pt] (.Tuple [a, b] k2 pt2) pos.line X.env = pure false := by rfl)
    (hsa : starEach [a, b] X.env = (false, eval a X.env) :: starEach [b] X.env := by rfl) (hsb : starEach [b] X.env = (false, eval b X.env) :: starEach [] X.env := by rfl) :
    DS X Γ (.Assign [.Tuple [.Name x px, .Name y py] kt pt] (.Tuple [a, b] k2 pt2) pos) (sParO i j ma mb) :=
  ⟨(ps_par hc hN hi hj hij hx hy (pa_cons ha.pe (pa_cons hb.pe pa_nil hsb) hsa) hw hs).imp fun E σ H ⟨w, ι, F, S, h⟩ => ⟨w, ι, F, S, (RR.bnd h).mono fun d w1 h1 => by
    intro ι1 F1 H1 v1 S1 l1 r1
    refine ⟨w1, ι1, F1, S1, (RR.bnd h1).mono fun d2 w2 h2 => ?_⟩
    intro ι2 F2 H2 p S2 l2 o2
    refine ⟨v1, .ref p, rfl, ?_⟩
    have h3 := RR.bnd (show RR Γ ((setF i d w2).andThen _) _ from h2)
    unfold Dl.setF at h3
    split at h3
    · rename_i hi2
      have h4 := RR.bnd (show RR Γ ((setO j d2 _).andThen _) _ from h3)
      unfold setO at h4
      split at h4
      · exact (show PoF Γ ι F E .nx _ from h4) ι2 F2 _ H2 ((S2.setF hi2 (Rp.mono l2 _ _ r1)).setO (by assumption) (o2.setF S2.slen hi2)) (l1.trans l2)
      · exact h4.elim
    · exact h3.elim⟩⟩

/-! ### name op= value -/
def sAug (i : Nat) (f : D → D → M D) (m : M D) : M Fl := (eV i).bnd fun x => m.bnd fun y => (f x y).bnd fun z => (setF i z).bnd fun _ => M.ret .nx
theorem ds_aug {i : Nat} {x : Str} {op : Operator} {r : R2} {f : D → D → M D} {pos' : Pos} (hN : X.N.Nodup) (hi : X.N[i]? = some x) (hx : Loc X.env.scope x) (ho : OpR X (inplaceOp op) r) (hf : OpD Γ r f) (he : DE X Γ e me)
    (hfn : X.fn x = true ∨ X.env.scope.names.lookup x = some .local := by first | exact .inl rfl | exact .inr rfl) : DS X Γ (.AugAssign (.Name x pos') op e pos) (sAug i f me) :=
  ⟨(ps_aug hN hi hx he.pe ho hfn).imp fun E σ H ⟨w, ι, F, S, h⟩ => by
    have h0 := RR.bnd h
    have go : ∀ {w1 : W} {F1 : Hp} {d : D} {v : V}, SR Γ w1 ι F1 σ H → Rp Γ.toGm ι F1 d v → RR Γ ((me.bnd fun y => (f d y).bnd fun z => (setF i z).bnd fun _ => M.ret Fl.nx) w1) (PoF Γ ι F1 E) → tD Γ me σ H fun y H1 => r v y H1 fun z H2 => E.nx (σ.set i (some z)) H2 := fun {w1 F1 d v} S1 r1 q => by
      refine ⟨w1, ι, F1, S1, (RR.bnd q).mono fun y w2 h2 => ?_⟩
      intro ι2 F2 H2 v2 S2 l2 r2
      refine hf S2 (Rp.mono l2 _ _ r1) r2 ((RR.bnd h2).mono fun z w3 h3 => ?_)
      intro ι3 F3 H3 v3 S3 l3 r3
      have h4 := RR.bnd (show RR Γ ((setF i z w3).andThen _) _ from h3)
      unfold setF at h4
      split at h4
      · exact (show PoF Γ ι F1 E .nx _ from h4) ι3 F3 _ H3 (S3.setF (by assumption) r3) (l2.trans l3)
      · exact h4.elim
    unfold eV at h0
    split at h0
    · rename_i d q
      obtain ⟨v, ev, rv⟩ := S.slot i d q
      exact ⟨v, ev, go S rv h0⟩
    · rename_i d q
      obtain ⟨F', v, S', l, ev, rv⟩ := S.frz q
      exact ⟨v, ev, go S' rv (RR.mono (k := PoF Γ ι F E) (show RR Γ ((me.bnd fun y => (f d y).bnd fun z => (setF i z).bnd fun _ => M.ret Fl.nx) _) _ from h0) fun _ _ q => q.le l)⟩
    · exact h0.elim⟩
theorem opd_addI {K : PySem.W.Frag} : OpD Γ (rI0 fun i j => .int (i + j)) (i2 fun i j => some (.int (i + j))) := opd_i20 (f := fun i j => .int (i + j)) fun _ _ _ _ => rfl
theorem opd_subI : OpD Γ (rI0 fun i j => .int (i - j)) (i2 fun i j => some (.int (i - j))) := opd_i20 (f := fun i j => .int (i - j)) fun _ _ _ _ => rfl

/-! ### own lists: append, pop, item, += -/
/-- the own list of slot i, before and behind m -/
def ownL (i : Nat) (m : M D) (k : List D → D → Option (D × List D)) : M D := fun w => match w.sl[i]? with
  | some (some (true, .lst _)) => (m w).andThen fun d w2 => match w2.sl[i]? with
    | some (some (true, .lst ds)) => match k ds d with
      | some (r, ds') => .ok r { w2 with sl := w2.sl.set i (some (true, .lst ds')) }
      | none => .bad
    | _ => .bad
  | _ => .bad
theorem ownL_of {r : V → List V → Hp → VK → Prop} {i : Nat} {k : List D → D → Option (D × List D)} {K : PySem.W.Frag}
    (hk : ∀ {w : W} {ι : List Addr} {F : Hp} {σ : L2.St} {H : Hp} {ds : List D} {d z : D} {ds' : List D} {p : Addr} {vs : List V} {v : V} {Q : VK}, SR Γ w ι F σ H → H p = some (.lst vs) → RpL Γ.toGm ι F ds vs → Rp Γ.toGm ι F d v → k ds d = some (z, ds') →
      (∀ (vz : V) (vs' : List V), RpL Γ.toGm ι F ds' vs' → Rp Γ.toGm ι F z vz → Q vz (upd H p (.lst vs'))) → r (.ref p) [v] H Q)
    {σ : L2.St} {H : Hp} {Q : VK} (h : tD Γ (ownL i me k) σ H Q) : tBM K "list" r (tVar i) (tCons (tD Γ me) tNil) σ H Q := by
  obtain ⟨w, ι, F, S, h⟩ := h
  unfold ownL at h
  split at h
  · rename_i ds0 q
    obtain ⟨p, e, _, _, _, vs0, q1, _⟩ := S.own i _ q
    refine ⟨.ref p, e, .inl ⟨rfl, vs0, .inl (.inl q1)⟩, w, ι, F, S, (RR.bnd h).mono fun d w2 h2 => ?_⟩
    intro ι2 F2 H2 v2 S2 l2 r2
    split at h2
    · rename_i ds q2
      obtain ⟨p', e', f', f0', fi', vs, q3, q4⟩ := S2.own i _ q2
      rw [e] at e'
      cases e'
      split at h2
      · rename_i z ds' q5
        refine hk S2 q3 q4 r2 q5 fun vz vs' r3 r4 => ?_
        exact (show Po Γ ι F σ Q z _ from h2) ι2 F2 _ vz (S2.wrO q2 e ⟨vs', upd_same, r3⟩) l2 r4
      · exact h2.elim
    · exact h2.elim
  · exact h.elim
def appK (ds : List D) (d : D) : Option (D × List D) := if ds.length < sizeLine then some (.non, ds ++ [d]) else none
theorem de_append {i : Nat} {x : Str} {pos2 apos : Pos} (he : DE X Γ e me) (hN : X.N[i]? = some x := by rfl) (hv : Vis X.env.scope x := by first | exact Or.inl rfl | exact Or.inr (Or.inl rfl) | exact Or.inr (Or.inr rfl)) (hd : (x == ("__debug__" : Str)) = false := by decide)
    (hcd : (x == ("__classdict__" : Str)) = false := by decide)
    (hbase : attributeBase (.Name x pos2) "append" X.env (eval (.Name x pos2) X.env) = eval (.Name x pos2) X.env := by rfl)
    (hfew : ((backTo pos (starEach [e] X.env)).all (fun x => !x.1) && (backToKw pos (keywordEach [] X.env)).all (fun x => x.1.isSome) && decide (([e] : List Expr).length + ([] : List Keyword).length + (if ([] : List Keyword).isEmpty then 0 else 1) < 30)) = true := by rfl)
    (hline : (apos.endLine == pos.line) = true := by rfl) (hs : starEach [e] X.env = (false, eval e X.env) :: starEach [] X.env := by rfl) (hplain : (backTo pos (starEach [] X.env)).any (·.1) = false := by rfl) :
    DE X Γ (.Call (.Attribute (.Name x pos2) "append" apos) [e] [] pos) (ownL i me appK) :=
  ⟨(pe_bm PySem.F.plainAttrs_list PySem.F.slot_list_append PySem.F.type_list_append mt_append (pe_var hN hv hd hcd) (pa_cons he.pe pa_nil hs) hbase hfew hline hs hplain).imp fun σ H Q h => ownL_of (fun {w ι F σ H ds d z ds' p vs v Q} S h1 h2 r1 hk hq => by
    unfold appK at hk
    split at hk
    · cases hk
      exact ⟨p, vs, v, rfl, rfl, h1, by rw [h2.length]; assumption, hq .non _ (h2.append (RpL.one r1)) rfl⟩
    · cases hk) h⟩
def popK (ds : List D) (d : D) : Option (D × List D) := match d with
  | .int i => if -(2 ^ 63) ≤ i ∧ i < 2 ^ 63 then match ixN ds.length i with
    | some j => match ds[j]? with
      | some z => some (z, ds.eraseIdx j)
      | none => none
    | none => none
    else none
  | _ => none
theorem RpL.erase {g : Gm} {ι : List Addr} {F : Hp} : ∀ {ds : List D} {vs : List V} (j : Nat), RpL g ι F ds vs → RpL g ι F (ds.eraseIdx j) (vs.eraseIdx j)
  | [], _, j, h => by cases h; simp [RpL]
  | d :: ds, _, 0, ⟨v, r, e, h1, h2⟩ => by subst e; exact h2
  | d :: ds, _, j + 1, ⟨v, r, e, h1, h2⟩ => by subst e; exact ⟨v, _, rfl, h1, RpL.erase j h2⟩
theorem de_popAt {i : Nat} {x : Str} {pos2 apos : Pos} (he : DE X Γ e me) (hN : X.N[i]? = some x := by rfl) (hv : Vis X.env.scope x := by first | exact Or.inl rfl | exact Or.inr (Or.inl rfl) | exact Or.inr (Or.inr rfl)) (hd : (x == ("__debug__" : Str)) = false := by decide)
    (hcd : (x == ("__classdict__" : Str)) = false := by decide)
    (hbase : attributeBase (.Name x pos2) "pop" X.env (eval (.Name x pos2) X.env) = eval (.Name x pos2) X.env := by rfl)
    (hfew : ((backTo pos (starEach [e] X.env)).all (fun x => !x.1) && (backToKw pos (keywordEach [] X.env)).all (fun x => x.1.isSome) && decide (([e] : List Expr).length + ([] : List Keyword).length + (if ([] : List Keyword).isEmpty then 0 else 1) < 30)) = true := by rfl)
    (hline : (apos.endLine == pos.line) = true := by rfl) (hs : starEach [e] X.env = (false, eval e X.env) :: starEach [] X.env := by rfl) (hplain : (backTo pos (starEach [] X.env)).any (·.1) = false := by rfl) :
    DE X Γ (.Call (.Attribute (.Name x pos2) "pop" apos) [e] [] pos) (ownL i me popK) :=
  ⟨(pe_bm PySem.F.plainAttrs_list PySem.F.slot_list_pop PySem.F.type_list_pop mt_popAt (pe_var hN hv hd hcd) (pa_cons he.pe pa_nil hs) hbase hfew hline hs hplain).imp fun σ H Q h => ownL_of (fun {w ι F σ H ds d z ds' p vs v Q} S h1 h2 r1 hk hq => by
    unfold popK at hk
    split at hk
    · rename_i k
      split at hk
      · rename_i hz
        split at hk
        · rename_i j hj
          split at hk
          · rename_i z' hz'
            cases hk
            cases r1
            obtain ⟨vz, q1, q2⟩ := h2.get hz'
            exact ⟨p, vs, k, j, vz, rfl, rfl, h1, hz.1, hz.2, by rw [h2.length]; exact (ixN_seq hj).1, q1, hq vz _ (h2.erase j) q2⟩
          · cases hk
        · cases hk
      · cases hk
    · cases hk) h⟩
/-- pop() -/
def eP0 (i : Nat) : M D := fun w => match w.sl[i]? with
  | some (some (true, .lst ds)) => match ds[ds.length - 1]? with
    | some z => .ok z { w with sl := w.sl.set i (some (true, .lst ds.dropLast)) }
    | none => .bad
  | _ => .bad
theorem RpL.dropLast {g : Gm} {ι : List Addr} {F : Hp} {ds : List D} {vs : List V} (h : RpL g ι F ds vs) : RpL g ι F ds.dropLast vs.dropLast := by
  rw [List.dropLast_eq_take, List.dropLast_eq_take, h.length]
  exact h.take _
theorem de_pop0 {i : Nat} {x : Str} {pos2 apos : Pos} (hN : X.N[i]? = some x := by rfl) (hv : Vis X.env.scope x := by first | exact Or.inl rfl | exact Or.inr (Or.inl rfl) | exact Or.inr (Or.inr rfl)) (hd : (x == ("__debug__" : Str)) = false := by decide)
    (hcd : (x == ("__classdict__" : Str)) = false := by decide)
    (hbase : attributeBase (.Name x pos2) "pop" X.env (eval (.Name x pos2) X.env) = eval (.Name x pos2) X.env := by rfl) (hline : (apos.endLine == pos.line) = true := by rfl) :
    DE X Γ (.Call (.Attribute (.Name x pos2) "pop" apos) [] [] pos) (eP0 i) :=
  ⟨(pe_bm0 PySem.F.plainAttrs_list PySem.F.slot_list_pop PySem.F.type_list_pop mt_pop (pe_var hN hv hd hcd) hbase hline).imp fun σ H Q ⟨w, ι, F, S, h⟩ => by
    unfold eP0 at h
    split at h
    · rename_i ds q
      obtain ⟨p, e, _, _, _, vs, q1, q2⟩ := S.own i _ q
      split at h
      · rename_i z hz
        obtain ⟨vz, q3, q4⟩ := q2.get hz
        refine ⟨.ref p, e, .inl ⟨rfl, vs, .inl (.inl q1)⟩, p, vs, vz, rfl, rfl, q1, by rw [q2.length]; exact q3, ?_⟩
        exact (show Po Γ ι F σ Q z _ from h) ι F _ vz (S.wrO q e ⟨_, upd_same, q2.dropLast⟩) (Le.refl _ _) q4
      · exact h.elim
    · exact h.elim⟩
/-- own list += list -/
def sExt (i : Nat) (m : M D) : M Fl := fun w => match w.sl[i]? with
  | some (some (true, .lst _)) => (m w).andThen fun d w2 => match d, w2.sl[i]? with
    | .lst es, some (some (true, .lst ds)) => if ds.length + es.length ≤ sizeLine then .ok .nx { w2 with sl := w2.sl.set i (some (true, .lst (ds ++ es))) } else .bad
    | _, _ => .bad
  | _ => .bad
theorem ds_ext {i : Nat} {x : Str} {pos' : Pos} (hN : X.N.Nodup) (hi : X.N[i]? = some x) (hx : Loc X.env.scope x) (he : DE X Γ e me)
    (hfn : X.fn x = true ∨ X.env.scope.names.lookup x = some .local := by first | exact .inl rfl | exact .inr rfl) : DS X Γ (.AugAssign (.Name x pos') .Add e pos) (sExt i me) :=
  ⟨(ps_aug hN hi hx he.pe iop_ext hfn).imp fun E σ H ⟨w, ι, F, S, h⟩ => by
    unfold sExt at h
    split at h
    · rename_i ds0 q
      obtain ⟨p, e, _, _, _, vs0, q1, _⟩ := S.own i _ q
      refine ⟨.ref p, e, w, ι, F, S, (RR.bnd h).mono fun d w2 h2 => ?_⟩
      intro ι2 F2 H2 v2 S2 l2 r2
      split at h2
      · rename_i es ds q2
        obtain ⟨p', e', f', f0', fi', vs, q3, q4⟩ := S2.own i _ q2
        rw [e] at e'
        cases e'
        obtain ⟨b, us, rfl, q5, q6⟩ := r2
        split at h2
        · refine ⟨p, b, vs, us, rfl, rfl, q3, S2.sub.ex q5, by rw [q4.length, q6.length]; assumption, ?_⟩
          have e2 : σ.set i (some (V.ref p)) = σ := by
            apply List.ext_getElem?
            intro j
            by_cases hj : j = i
            · subst hj
              have hs : j < σ.length := (List.getElem?_eq_some_iff.mp e).1
              rw [List.getElem?_set_self hs, e]
            · rw [List.getElem?_set_ne (Ne.symm hj)]
          show E.nx (σ.set i (some (V.ref p))) _
          rw [e2]
          exact (show PoF Γ ι F E .nx _ from h2) ι2 F2 σ _ (S2.wrO q2 e ⟨_, upd_same, q4.append q6⟩) l2
        · exact h2.elim
      · exact h2.elim
    · exact h.elim⟩
/-- own list [i] = value, as a target -/
def tgI (i : Nat) (mk : M D) (d : D) : M Unit := fun w => match w.sl[i]? with
  | some (some (true, .lst _)) => (mk w).andThen fun k w2 => match k, w2.sl[i]? with
    | .int j, some (some (true, .lst ds)) => match ixN ds.length j with
      | some n => .ok () { w2 with sl := w2.sl.set i (some (true, .lst (ds.set n d))) }
      | none => .bad
    | _, _ => .bad
  | _ => .bad
theorem dg_item {i : Nat} {x : Str} {pos2 : Pos} (he : DE X Γ e me) (hN : X.N[i]? = some x := by rfl) (hv : Vis X.env.scope x := by first | exact Or.inl rfl | exact Or.inr (Or.inl rfl) | exact Or.inr (Or.inr rfl)) (hd : (x == ("__debug__" : Str)) = false := by decide)
    (hcd : (x == ("__classdict__" : Str)) = false := by decide)
    (ha : ∀ v, assign (.Subscript (.Name x pos2) e pos) X.env v = (do
      let ov ← holding [v] (eval (.Name x pos2) X.env)
      let iv ← holding [v, ov] (eval e X.env)
      standAt pos
      holding [v, ov, iv] (setItem ov iv v)
      release [v, ov, iv] []) := by intro _; rfl) : DG X Γ (.Subscript (.Name x pos2) e pos) (tgI i me) :=
  ⟨(pg_sub (pe_var hN hv hd hcd) he.pe set_list ha).imp fun v σ H Q ⟨w, ι, F, d, S, r, h⟩ => by
    unfold tgI at h
    split at h
    · rename_i ds0 q
      obtain ⟨p, e, _, _, _, vs0, q1, _⟩ := S.own i _ q
      refine ⟨.ref p, e, w, ι, F, S, (RR.bnd h).mono fun k w2 h2 => ?_⟩
      intro ι2 F2 H2 v2 S2 l2 r2
      split at h2
      · rename_i j ds q2
        obtain ⟨p', e', f', f0', fi', vs, q3, q4⟩ := S2.own i _ q2
        rw [e] at e'
        cases e'
        cases r2
        split at h2
        · rename_i n hn
          refine ⟨p, vs, j, n, rfl, rfl, q3, by rw [q4.length]; exact hn, ?_⟩
          exact (show PoU Γ ι F Q _ from h2) ι2 F2 σ _ (S2.wrO q2 e ⟨_, upd_same, RpL.set (Rp.mono l2 _ _ r) n q4⟩) l2
        · exact h2.elim
      · exact h2.elim
    · exact h.elim⟩
/-- stored list [i] = value, as a target -/
def tgS (mo mk : M D) (d : D) : M Unit := mo.bnd fun o => match o with
  | .ob n => mk.bnd fun k => fun w2 => match k, w2.st[n]? with
    | .int j, some (.lst ds) => match ixN ds.length j with
      | some m => .ok () { w2 with st := w2.st.set n (.lst (ds.set m d)) }
      | none => .bad
    | _, _ => .bad
  | _ => M.no
theorem dg_itemS (ha : DE X Γ a ma) (he : DE X Γ e me)
    (ht : ∀ v, assign (.Subscript a e pos) X.env v = (do
      let ov ← holding [v] (eval a X.env)
      let iv ← holding [v, ov] (eval e X.env)
      standAt pos
      holding [v, ov, iv] (setItem ov iv v)
      release [v, ov, iv] []) := by intro _; rfl) : DG X Γ (.Subscript a e pos) (tgS ma me) :=
  ⟨(pg_sub ha.pe he.pe set_list ht).imp fun v σ H Q ⟨w, ι, F, d, S, r, h⟩ => by
    refine ⟨w, ι, F, S, (RR.bnd h).mono fun o w1 h1 => ?_⟩
    intro ι1 F1 H1 v1 S1 l1 r1
    split at h1
    · rename_i n
      refine ⟨w1, ι1, F1, S1, (RR.bnd h1).mono fun k w2 h2 => ?_⟩
      intro ι2 F2 H2 v2 S2 l2 r2
      obtain ⟨p, hp, rfl⟩ := r1
      have hp2 := l2.io _ _ hp
      split at h2
      · rename_i j ds q2
        obtain ⟨q3, vs, q4, q5⟩ := S2.sto n _ p q2 hp2
        cases r2
        split at h2
        · rename_i m hm
          refine ⟨p, vs, j, m, rfl, rfl, q4, by rw [q5.length]; exact hm, ?_⟩
          exact (show PoU Γ ι F Q _ from h2) ι2 F2 σ _ (S2.wrS q2 hp2 (fun ps z => by rw [q4] at z; cases z) ⟨_, upd_same, RpL.set (Rp.mono (l1.trans l2) _ _ r) m q5⟩) (l1.trans l2)
        · exact h2.elim
      · exact h2.elim
    · exact h1.elim⟩
/-- stored list [i] -/
def eIxS (mo mk : M D) : M D := mo.bnd fun o => match o with
  | .ob n => mk.bnd fun k => fun w2 => match k, w2.st[n]? with
    | .int j, some (.lst ds) => match L2.atI ds j with
      | some d => .ok d w2
      | none => .bad
    | _, _ => .bad
  | _ => M.no
theorem de_ixS (ha : DE X Γ a ma) (hb : DE X Γ b mb) (hs : PlainIx b := by exact fun _ _ => rfl) : DE X Γ (.Subscript a b pos) (eIxS ma mb) :=
  ⟨(pe_ix ix_list ha.pe hb.pe hs).imp fun σ H Q ⟨w, ι, F, S, h⟩ => by
    refine ⟨w, ι, F, S, (RR.bnd h).mono fun o w1 h1 => ?_⟩
    intro ι1 F1 H1 v1 S1 l1 r1
    split at h1
    · rename_i n
      refine ⟨w1, ι1, F1, S1, (RR.bnd h1).mono fun k w2 h2 => ?_⟩
      intro ι2 F2 H2 v2 S2 l2 r2
      obtain ⟨p, hp, rfl⟩ := r1
      have hp2 := l2.io _ _ hp
      split at h2
      · rename_i j ds q2
        obtain ⟨q3, vs, q4, q5⟩ := S2.sto n _ p q2 hp2
        cases r2
        split at h2
        · rename_i d hd
          obtain ⟨vd, q6, q7⟩ := q5.atI hd
          exact ⟨p, vs, j, vd, rfl, rfl, .inl (.inl q4), q6, (show Po Γ ι F σ Q d w2 from h2) ι2 F2 H2 vd S2 (l1.trans l2) q7⟩
        · exact h2.elim
      · exact h2.elim
    · exact h1.elim⟩
/-- a list display that is stored from now on: name = [..] -/
def sNew (i : Nat) (m : M D) : M Fl := m.bnd fun d => fun w => match d with
  | .lst ds => if i < w.sl.length then .ok .nx { sl := w.sl.set i (some (false, .ob w.st.length)), st := w.st ++ [.lst ds] } else .bad
  | _ => .bad
theorem SR.addS {w : W} {ι : List Addr} {F : Hp} {σ : L2.St} {H : Hp} {p : Addr} {d : D} {u : SO} (S : SR Γ w ι F σ H) (o : Ow Γ w ι F σ H p d) (hu : ∀ ι', (∀ (n : Nat) a, ι[n]? = some a → ι'[n]? = some a) → RpS Γ.toGm Γ.ul ι' F H p u) :
    SR Γ { w with st := w.st ++ [u] } (ι ++ [p]) F σ H ∧ Le ι F (ι ++ [p]) F := by
  have io : ∀ (n : Nat) a, ι[n]? = some a → (ι ++ [p])[n]? = some a := fun n a h => by
    rw [List.getElem?_append_left (List.getElem?_eq_some_iff.mp h).1]
    exact h
  have l : Le ι F (ι ++ [p]) F := ⟨io, fun _ _ h => h⟩
  refine ⟨{ S with io := fun n a h => io n a (S.io n a h), inw := fun a h => ?_, ind := ?_, slot := fun i d h => ?_, own := fun i d h => ?_, hid := fun q hq => ?_, stl := by simp [S.stl], sto := fun n v a h1 h2 => ?_ }, l⟩
  · rcases List.mem_append.mp h with h | h
    · exact S.inw a h
    · rw [List.mem_singleton.mp h]; exact .inr o.h0
  · refine List.nodup_append.mpr ⟨S.ind, by simp, fun a ha b hb z => ?_⟩
    rw [List.mem_singleton.mp hb] at z
    exact o.i (z ▸ ha)
  · obtain ⟨v, q1, q2⟩ := S.slot i d h
    exact ⟨v, q1, Rp.mono l _ _ q2⟩
  · obtain ⟨b, q1, q2, q3, q4, q5⟩ := S.own i d h
    refine ⟨b, q1, q2, q3, fun z => ?_, q5.keep l fun _ z => z⟩
    rcases List.mem_append.mp z with z | z
    · exact q4 z
    · rw [List.mem_singleton.mp z] at q1
      exact o.o i d h q1
  · obtain ⟨q1, q2, q3, q4, qt⟩ := S.hid q hq
    refine ⟨q1, q2, fun z => ?_, q4, qt⟩
    rcases List.mem_append.mp z with z | z
    · exact q3 z
    · exact o.h q hq (List.mem_singleton.mp z)
  · by_cases hn : n < w.st.length
    · rw [List.getElem?_append_left hn] at h1
      rw [List.getElem?_append_left (by rw [← S.stl]; exact hn)] at h2
      obtain ⟨q1, q2⟩ := S.sto n v a h1 h2
      exact ⟨q1, q2.keep l fun _ z => z⟩
    · rw [List.getElem?_append_right (Nat.le_of_not_lt hn)] at h1
      rw [List.getElem?_append_right (by rw [← S.stl]; exact Nat.le_of_not_lt hn)] at h2
      have e1 : n - w.st.length = 0 := by
        have := (List.getElem?_eq_some_iff.mp h1).1
        simp at this
        omega
      have e2 : n - ι.length = 0 := by rw [← S.stl]; exact e1
      rw [e1] at h1
      rw [e2] at h2
      cases h1
      cases h2
      exact ⟨o.f, hu _ io⟩
theorem ds_new {i : Nat} {x : Str} {pos' : Pos} (hN : X.N.Nodup) (hi : X.N[i]? = some x) (hx : Loc X.env.scope x) (he : DN X Γ e me) (hs : swapsWith e (some (.Name x pos')) pos.line X.env = pure false := by rfl) (hf : X.fn x = true ∨ X.env.scope.names.lookup x = some .local := by first | exact .inl rfl | exact .inr rfl) :
    DS X Γ (.Assign [.Name x pos'] e pos) (sNew i me) :=
  ⟨(ps_set hN hi hx he.pe hs hf).imp fun E σ H ⟨w, ι, F, S, h⟩ => ⟨w, ι, F, S, (RR.bnd h).mono fun d w1 h1 => by
    intro ι1 F1 H1 p S1 l1 o1
    split at h1
    · rename_i ds
      split at h1
      · obtain ⟨S2, l2⟩ := S1.addS (u := .lst ds) o1 fun ι' io => by
          obtain ⟨vs, q1, q2⟩ := o1.r
          exact ⟨vs, q1, RpL.mono ⟨io, fun _ _ z => z⟩ _ _ q2⟩
        refine (show PoF Γ ι F E .nx _ from h1) _ F1 _ H1 (S2.setF (by assumption) ⟨p, ?_, rfl⟩) (l1.trans l2)
        rw [S1.stl, List.getElem?_append_right (Nat.le_refl _)]
        simp
      · exact h1.elim
    · exact h1.elim⟩⟩
end
end Dl


set_option Elab.async false
set_option linter.all false
set_option maxRecDepth 100000
set_option maxHeartbeats 4000000
namespace Dl
open PySem PySem.Spec PyProof.Rows L2

/-! ### enumerate(tuple) -/
theorem meets_enumerate_new1 {v : Value} {o : Obj} {H : Heap → Prop} (B : Begins v o H) :
    Meets (Builtin.«enumerate.__new__» ⟨[.type "enumerate", v], []⟩) (fun _ R s => H s.heap ∧
      R (.ok (.ret (.ref (s.heap.push o).objs.size))) { s with heap := (s.heap.push o).push { cls := .type "enumerate", data := .fields #[.none, .bool false, .ref s.heap.objs.size, rawInt 0, .none, .none] } }) :=
  .of_wp fun prog w A R s h => by
    obtain ⟨hp, g, d, tk, os⟩ := s; obtain ⟨h1, h⟩ := h
    have hsub := sub_enumerate
    have q1 : ∀ {A' : Around} {E : Value → Shared → Prop} {Q : Value → Shared → Prop}, Q (.ref hp.objs.size) ⟨hp.push o, g, d, tk, os⟩ → wpAny (model prog w) A' (pyIter v) Q E ⟨hp, g, d, tk, os⟩ :=
      fun q => B.iter prog w _ _ ⟨hp, g, d, tk, os⟩ _ h1 q
    wp_walk using q1
    refine wpAny_stack_any fun st => wpAny_pure ?_
    split
    · rename_i c _ _ _ _ _
      cases (c == Value.type "enumerate")
      · wp_walk using q1
        exact ⟨_, rfl, h⟩
      · wp_walk using q1
        exact ⟨_, rfl, h⟩
    · wp_walk using q1
      exact ⟨_, rfl, h⟩
theorem enum_begins1 {prog : Program} {w : World} {A : Around} {E : Value → Shared → Prop} {s : Shared} {v : Value} {o : Obj} {H : Heap → Prop} {Q : Value → Shared → Prop} (B : Begins v o H) (h1 : H s.heap)
    (h : ∀ h', IsEnum h' (s.heap.objs.size + 1) s.heap.objs.size 0 .none → h'.get? s.heap.objs.size = some o → h'.objs.size = s.heap.objs.size + 2 →
      (∀ b o, s.heap.get? b = some o → h'.get? b = some o) → Q (.ref (s.heap.objs.size + 1)) { s with heap := h' }) :
    wpAny (model prog w) A (call (.type "enumerate") [v]) Q E s := by
  refine callType_new F.called_enumerate (by decide) (F.typeCall_enumerate_1 _) (F.newCall_enumerate_1 _) (fun obj => F.args_object_init_2 obj _) F.entry_enumerate_new
    (meets_enumerate_new1 B) ⟨h1, ?_⟩
  have hz : (s.heap.push o).objs.size = s.heap.objs.size + 1 := Heap.size_push ..
  show _ ∧ _
  rw [hz]
  have he : IsEnum ((s.heap.push o).push { cls := .type "enumerate", data := .fields #[.none, .bool false, .ref s.heap.objs.size, rawInt 0, .none, .none] }) (s.heap.objs.size + 1) s.heap.objs.size 0 .none := by
    have := Heap.get?_push_size (s.heap.push o) (o := { cls := .type "enumerate", data := .fields #[.none, .bool false, .ref s.heap.objs.size, rawInt 0, .none, .none] }) rfl
    rw [hz] at this; exact this
  refine ⟨⟨_, he, rfl⟩, h _ he (Heap.get?_push_of_some _ (Heap.get?_push_size _ B.free)) (by rw [Heap.size_push, hz]) fun b o x => Heap.get?_push_of_some _ (Heap.get?_push_of_some _ x)⟩
/-- the tuple at a, each item in a new pair -/
def IteT (K : PySem.W.Frag) (a : Addr) : It :=
  ⟨fun i H => ∃ (xs : List V) (x : V), SqT K H a xs ∧ xs[i]? = some x, fun i H v H' => ∃ T x, v = .ref T ∧ H T = none ∧ H' = upd H T (.tup [.int (i : Nat), x]) ∧ ∀ xs, SqT K H a xs → xs[i]? = some x, fun i H => ∃ xs : List V, SqT K H a xs ∧ xs.length ≤ i⟩
theorem IsTupleIter_at {h h' : Heap} {it a : Addr} {i : Nat} (x : h.IsTupleIter it a i) (k : ∀ o, h.get? it = some o → h'.get? it = some o) : h'.IsTupleIter it a i := x.at k
theorem turn_enumT {P : Program} {w : World} {K : PySem.W.Frag} {elts : List Expr} {kk : Nat} {tpos : Pos} (a e it : Addr) :
    Turn P w K (.Tuple elts kk tpos) (IteT K a) [e, it] e (fun i h => (∃ old, IsEnum h e it ((i : Nat) : Int) old) ∧ h.IsTupleIter it a i ∧ e ≠ it ∧ e ≠ a ∧ a ≠ it) where
  mem := by simp
  obj := fun i h st b hb => by
    obtain ⟨⟨old, he⟩, ⟨o, ho, hc, hd⟩, _⟩ := st
    have e' : b = e ∨ b = it := by simpa using hb
    rcases e' with z | z
    · rw [z]; exact ⟨_, he, fun v q => nomatch q⟩
    · rw [z]; exact ⟨o, ho, fun v q => by rw [hd] at q; cases q⟩
  keep := fun i h h' st k => let ⟨⟨old, he⟩, hi, hne⟩ := st; ⟨⟨old, k e (by simp) _ he⟩, hi.at fun o q => k it (by simp) o q, hne⟩
  item := by
    intro X hP hw hK hc i pins s σ H E I hf st hg
    subst hP hw hK
    obtain ⟨⟨old, he⟩, hit, hne, hea, hai⟩ := st
    obtain ⟨xs, x, hq, hx⟩ := hg
    obtain ⟨its, rv, p, hz⟩ := I.tuple hq
    obtain ⟨u, hu, ru⟩ := rv.get hx
    have hel : e < s.heap.objs.size := Heap.lt_size he
    have hil : it < s.heap.objs.size := by obtain ⟨_, q, _⟩ := hit; exact Heap.lt_size q
    have hlt : i < its.toArray.size := by
      have := (List.getElem?_eq_some_iff.mp hu).1
      simpa using this
    refine wpAny_pyNext_enum_itemD (Draws.tuple (A := X.A.in1) (I.ok.hd hc) it a hai its.toArray) he (show s.heap.IsTupleIter it a i ∧ s.heap.IsTuple a its.toArray from ⟨hit, p⟩) hlt hne (by simp [hne, hea]) fun x' h' tk hP ho hs' hT hsz hk => ?_
    have hxu : x' = u := by
      have hP' : its.toArray[i]? = some x' := hP
      rw [List.getElem?_toArray, hu] at hP'
      exact (Option.some.inj hP').symm
    subst hxu
    refine ⟨_, rfl, wpAny_letOwnedTupleGo_enum (s := { s with heap := h', toks := tk + 1 }) ho fun h'' he' sb => ?_⟩
    have hT2 : h''.get? s.heap.objs.size = some { cls := .type "tuple", data := .seq #[.int i tk, x'] } := (sb.2 _ (Nat.ne_of_gt hel)).trans hT
    have new : ObjOk X.prog X.w (upd H s.heap.objs.size (.tup [.int (i : Nat), x])) h'' s.heap.objs.size (.tup [.int (i : Nat), x]) :=
      ⟨by show 2 ≤ sizeLine; decide, [.int i tk, x'], .cons ⟨_, rfl⟩ (.cons ru .nil), ⟨_, hT2, rfl, _, rfl⟩⟩
    have I1 : Inv X pins σ (upd H s.heap.objs.size (.tup [.int (i : Nat), x])) { s with heap := h'', toks := tk + 1 } :=
      I.turnedNew (ch := [e, it]) (fun b ob hb q => (sb.2 b (fun z => hb (by simp [z]))).trans (hk b ob (fun z => hb (by simp [z])) (fun z => hb (by simp [z])) q)) hf (Nat.le_refl _) new
    refine ⟨.ref s.heap.objs.size, _, I1, rfl, ⟨_, x, rfl, I.hok.fresh (Nat.le_refl _), rfl, fun ys hy => by rw [I.tuple_inj hy hq]; exact hx⟩, ⟨⟨x', ?_⟩, hs'.1.at fun o q => (sb.2 it (Ne.symm hne)).trans q, hne, hea, hai⟩, fun b hb => ?_⟩
    · have e1 : ((i + 1 : Nat) : Int) = (i : Int) + 1 := by omega
      rw [e1]; exact he'
    · have hb' : b < s.heap.objs.size := by
        have e' : b = e ∨ b = it := by simpa using hb
        rcases e' with z | z
        · rw [z]; exact hel
        · rw [z]; exact hil
      rw [upd_ne (Nat.ne_of_lt hb')]
      exact (hf b hb).1
  done := by
    intro X hP hw hK hc i pins s σ H E I hf st hg
    subst hP hw hK
    obtain ⟨⟨old, he⟩, hit, hne, hea, hai⟩ := st
    obtain ⟨xs, hq, hx⟩ := hg
    obtain ⟨its, rv, p, hz⟩ := I.tuple hq
    obtain ⟨f0, f1, f2, f3, f4, f5⟩ := hf it (by simp)
    have hl := rv.length
    have D := Draws.tuple (prog := X.prog) (w := X.w) (A := X.A.in1) (I.ok.hd hc) it a hai its.toArray
    have D' : Draws X.prog X.w X.A.in1 it [it, a] i (fun i v => its.toArray[i]? = some v) (fun j h => j = i ∧ h.IsTupleIter it a i ∧ IsTup h a its.toArray) := by
      refine ⟨fun j h st => let ⟨_, st, _⟩ := st; let ⟨o, ho, _⟩ := st; ⟨o, ho⟩, fun j h h' st hk => ⟨st.1, st.2.1.at fun o e => hk it (by simp) o e, ?_⟩, fun j s Q E hj st => absurd st.1 (Nat.ne_of_lt hj), fun s Q E st hE => ?_⟩
      · obtain ⟨o, ho, r⟩ := st.2.2
        exact ⟨o, hk a (by simp) o ho, r⟩
      · exact wpAny_nextOf_tuple_end (I.ok.hd hc) st.2.1 (show s.heap.IsTuple a its.toArray from st.2.2) (by simp; omega) hE
    exact wpAny_pyNext_enum_endD D' he ⟨rfl, hit, p⟩ fun h' eb => ⟨rfl, I.turned (t' := s.toks) (fun b o hb q => eb b o hb q) f0 f1 f3 f4 f5⟩
  self := fun A i s Q E st h => let ⟨⟨_, he⟩, _⟩ := st; wpAny_pyIter_enum he h
def iEnumA (K : PySem.W.Frag) (ta : TA) : TI := fun σ H R => ta σ H fun vs H1 => ∃ a, vs = [.ref a] ∧ ((∃ xs, SqL K H1 a xs ∧ R (Ite K a) H1) ∨ (∃ xs, SqT K H1 a xs ∧ R (IteT K a) H1))
theorem pi_enumA {X : Cx} {e : Expr} {ta : TA} {p pos tpos : Pos} {elts : List Expr} {kk : Nat} (hg : Gl X "enumerate") (hm : X.mg "enumerate" = none) (ha : PA X [e] ta) (hs : starEach [e] X.env = [(false, eval e X.env)] := by rfl) :
    PI X (.Tuple elts kk tpos) (.Call (.Name "enumerate" p) [e] [] pos) (iEnumA X.K ta) := by
  refine ⟨fun pins s σ H R I h => ?_⟩
  refine Call_ (ld_blt I hg hm boot_enumerate (PyProof.Rows.callWith_type1 (thn (ha.run pos pins s σ H _ I h) fun us s1 ⟨vs, H1, I1, r1, q1⟩ => ?_) hs rfl))
  obtain ⟨a, ex, q1⟩ := q1
  subst ex
  cases r1 with
  | cons r rr =>
    cases rr
    cases r
    have fp : ∀ b ∈ [s1.heap.objs.size + 1, s1.heap.objs.size], FpOk X pins H1 b := fun b hb => by
      have e' : b = s1.heap.objs.size + 1 ∨ b = s1.heap.objs.size := by simpa using hb
      have hle : s1.heap.objs.size ≤ b := by
        rcases e' with z | z
        · rw [z]; exact Nat.le_add_right _ _
        · rw [z]; exact Nat.le_refl _
      exact I1.fpOk hle (I1.hok.fresh hle)
    rcases q1 with ⟨xs, hq, q⟩ | ⟨xs, hq, q⟩
    · obtain ⟨its, rv, p', hz⟩ := I1.list hq
      refine call_enumerate_list p'.isList fun h' he hit hsz hk => wpAny_pyIter_enum he ?_
      have I2 : Inv X pins σ H1 { s1 with heap := h' } := I1.kept (t' := s1.toks) hk
      exact ⟨s1.heap.objs.size + 1, [s1.heap.objs.size + 1, s1.heap.objs.size], _, _, H1, rfl, I2, turn_enum a (s1.heap.objs.size + 1) s1.heap.objs.size, ⟨⟨.none, he⟩, hit, Nat.succ_ne_self _⟩, fp, q⟩
    · obtain ⟨its, rv, p', hz⟩ := I1.tuple hq
      have hal : a < s1.heap.objs.size := by obtain ⟨_, q, _⟩ := p'; exact Heap.lt_size q
      refine enum_begins1 (begins_tuple a its.toArray) p' fun h' he hit hsz hk => wpAny_pyIter_enum he ?_
      have I2 : Inv X pins σ H1 { s1 with heap := h' } := I1.kept (t' := s1.toks) hk
      exact ⟨s1.heap.objs.size + 1, [s1.heap.objs.size + 1, s1.heap.objs.size], _, _, H1, rfl, I2, turn_enumT a (s1.heap.objs.size + 1) s1.heap.objs.size, ⟨⟨.none, he⟩, ⟨_, hit, rfl, rfl⟩, Nat.succ_ne_self _, fun z => absurd hal (by rw [← z]; exact Nat.not_lt.mpr (Nat.le_add_right _ _)), Nat.ne_of_lt hal⟩, fp, q⟩
/-- list or tuple -/
def iSeq (K : PySem.W.Frag) (tl : TE) : TI := fun σ H R => tl σ H fun x H1 => ∃ a, x = .ref a ∧ ((∃ xs, SqL K H1 a xs ∧ R (Itl K a) H1) ∨ (∃ xs, SqT K H1 a xs ∧ R (Itt K a) H1))
theorem pi_seq {X : Cx} {tg l : Expr} {tl : TE} (hl : PE X l tl) : PI X tg l (iSeq X.K tl) := by
  refine ⟨fun pins s σ H R I h => ?_⟩
  refine thn (hl.run pins s σ H _ I h) fun v s1 ⟨x, H1, I1, r1, q1⟩ => ?_
  obtain ⟨a, e, q1⟩ := q1
  subst e
  cases r1
  have fp : ∀ b ∈ [s1.heap.objs.size], FpOk X pins H1 b := fun b hb => by
    have e : b = s1.heap.objs.size := by simpa using hb
    subst e
    exact I1.fpOk (Nat.le_refl _) (I1.hok.fresh (Nat.le_refl _))
  rcases q1 with ⟨xs, hq, q⟩ | ⟨xs, hq, q⟩
  · obtain ⟨its, rv, p, hz⟩ := I1.list hq
    refine wpAny_pyIter_list p.isList ?_
    exact ⟨s1.heap.objs.size, [s1.heap.objs.size], _, _, H1, rfl, I1.kept (t' := s1.toks) fun b o e => Heap.get?_push_of_some _ e, turn_list a _, ⟨_, Heap.get?_push_size _ rfl, rfl, rfl⟩, fp, q⟩
  · obtain ⟨its, rv, p, hz⟩ := I1.tuple hq
    refine wpAny_pyIter_tuple (show s1.heap.IsTuple a its.toArray from p) ?_
    exact ⟨s1.heap.objs.size, [s1.heap.objs.size], _, _, H1, rfl, I1.kept (t' := s1.toks) fun b o e => Heap.get?_push_of_some _ e, turn_tuple a _, ⟨_, Heap.get?_push_size _ rfl, rfl, rfl⟩, fp, q⟩
end Dl


set_option Elab.async false
set_option linter.all false
set_option maxRecDepth 100000
set_option maxHeartbeats 4000000
namespace Dl
open PySem PySem.Spec PyProof.Rows L2

/-! ### iterators -/
/-- the iterator J gives these -/
structure ItD (g : Gm) (J : It) (ι : List Addr) (F : Hp) (ds : List D) : Prop where
  go : ∀ (i : Nat) (Γ : Fr) (w : W) (ι' : List Addr) (F' : Hp) (σ : L2.St) (H : Hp), SR Γ w ι' F' σ H → Γ.toGm = g → Le ι F ι' F' → i < ds.length → J.go i H
  st : ∀ (i : Nat) (Γ : Fr) (w : W) (ι' : List Addr) (F' : Hp) (σ : L2.St) (H : Hp), SR Γ w ι' F' σ H → Γ.toGm = g → Le ι F ι' F' → ds.length ≤ i → J.stop i H
  yl : ∀ (i : Nat) (d : D) (Γ : Fr) (w : W) (ι' : List Addr) (F' : Hp) (σ : L2.St) (H : Hp) (x : V) (H' : Hp), SR Γ w ι' F' σ H → Γ.toGm = g → Le ι F ι' F' → ds[i]? = some d → J.yld i H x H' → ∃ F'', SR Γ w ι' F'' σ H' ∧ Le ι' F' ι' F'' ∧ Rp g ι' F'' d x
def tI (Γ : Fr) (m : M (List D)) : TI := fun σ H R => ∃ w ι F, SR Γ w ι F σ H ∧ RR Γ (m w) fun ds w' => ∀ ι' F' H' J, SR Γ w' ι' F' σ H' → Le ι F ι' F' → ItD Γ.toGm J ι' F' ds → R J H'
structure DI (X : Cx) (Γ : Fr) (tg iter : Expr) (m : M (List D)) : Prop where
  pi : PI X tg iter (tI Γ m)
theorem itd_list {g : Gm} {K : PySem.W.Frag} {ι : List Addr} {F : Hp} {a : Addr} {ds : List D} {vs : List V} (h : F a = some (.lst vs)) (r : RpL g ι F ds vs) : ItD g (Itl K a) ι F ds where
  go := fun i Γ w ι' F' σ H S _ l hi => by
    have e := S.sub.ex (l.fo _ _ h)
    exact ⟨vs, vs[i]'(by rw [r.length]; exact hi), .inl (.inl e), List.getElem?_eq_getElem _⟩
  st := fun i Γ w ι' F' σ H S _ l hi => ⟨vs, .inl (.inl (S.sub.ex (l.fo _ _ h))), by rw [r.length]; exact hi⟩
  yl := fun i d Γ w ι' F' σ H x H' S _ l hd y => by
    obtain ⟨e, y⟩ := y
    subst e
    obtain ⟨v, q1, q2⟩ := r.get hd
    have q3 := y vs (.inl (.inl (S.sub.ex (l.fo _ _ h))))
    rw [q1] at q3
    cases q3
    exact ⟨F', S, Le.refl _ _, Rp.mono l _ _ q2⟩
theorem itd_tup {g : Gm} {K : PySem.W.Frag} {ι : List Addr} {F : Hp} {a : Addr} {ds : List D} {vs : List V} (h : F a = some (.tup vs)) (r : RpL g ι F ds vs) : ItD g (Itt K a) ι F ds where
  go := fun i Γ w ι' F' σ H S _ l hi => by
    have e := S.sub.ex (l.fo _ _ h)
    exact ⟨vs, vs[i]'(by rw [r.length]; exact hi), .inl (.inl e), List.getElem?_eq_getElem _⟩
  st := fun i Γ w ι' F' σ H S _ l hi => ⟨vs, .inl (.inl (S.sub.ex (l.fo _ _ h))), by rw [r.length]; exact hi⟩
  yl := fun i d Γ w ι' F' σ H x H' S _ l hd y => by
    obtain ⟨e, y⟩ := y
    subst e
    obtain ⟨v, q1, q2⟩ := r.get hd
    have q3 := y vs (.inl (.inl (S.sub.ex (l.fo _ _ h))))
    rw [q1] at q3
    cases q3
    exact ⟨F', S, Le.refl _ _, Rp.mono l _ _ q2⟩
theorem rpL_is {g : Gm} {ι : List Addr} {F : Hp} : ∀ ns : List Int, RpL g ι F (ns.map D.int) (ns.map V.int)
  | [] => rfl
  | n :: ns => ⟨_, _, rfl, rfl, rpL_is ns⟩
/-- the items of a pair -/
theorem SR.pair {Γ : Fr} {w : W} {ι : List Addr} {F : Hp} {σ : L2.St} {H : Hp} {T : Addr} {x y : V} {d e : D} (S : SR Γ w ι F σ H) (n : H T = none) (r1 : Rp Γ.toGm ι F d x) (r2 : Rp Γ.toGm ι F e y) :
    ∃ F'', SR Γ w ι F'' σ (upd H T (.tup [x, y])) ∧ Le ι F ι F'' ∧ Rp Γ.toGm ι F'' (.tup [d, e]) (.ref T) := by
  obtain ⟨S', l⟩ := S.alloc (o := .tup [x, y]) n (fun ps e => by cases e)
  exact ⟨_, S', l, T, _, rfl, upd_same, x, _, rfl, Rp.mono l _ _ r1, y, _, rfl, Rp.mono l _ _ r2, rfl⟩
def numb : Nat → List D → List D
  | _, [] => []
  | i, d :: ds => .tup [.int i, d] :: numb (i + 1) ds
theorem numb_len : ∀ (ds : List D) (i : Nat), (numb i ds).length = ds.length
  | [], _ => rfl
  | d :: ds, i => by simp [numb, numb_len ds]
theorem numb_get : ∀ (ds : List D) (k i : Nat) {d : D}, (numb k ds)[i]? = some d → ∃ e, ds[i]? = some e ∧ d = .tup [.int (k + i : Nat), e]
  | [], _, _, _, h => by simp [numb] at h
  | e :: ds, k, 0, d, h => by
    simp [numb] at h
    exact ⟨e, rfl, by simp [← h]⟩
  | e :: ds, k, i + 1, d, h => by
    obtain ⟨e', h1, h2⟩ := numb_get ds (k + 1) i (by simpa [numb] using h)
    exact ⟨e', by simpa using h1, by rw [h2]; simp; omega⟩
theorem itd_enumL {g : Gm} {K : PySem.W.Frag} {ι : List Addr} {F : Hp} {a : Addr} {ds : List D} {vs : List V} (h : F a = some (.lst vs)) (r : RpL g ι F ds vs) : ItD g (Ite K a) ι F (numb 0 ds) where
  go := fun i Γ w ι' F' σ H S _ l hi => by
    rw [numb_len] at hi
    have e := S.sub.ex (l.fo _ _ h)
    exact ⟨vs, vs[i]'(by rw [r.length]; exact hi), .inl (.inl e), List.getElem?_eq_getElem _⟩
  st := fun i Γ w ι' F' σ H S _ l hi => ⟨vs, .inl (.inl (S.sub.ex (l.fo _ _ h))), by rw [numb_len] at hi; rw [r.length]; exact hi⟩
  yl := fun i d Γ w ι' F' σ H x H' S hg l hd y => by
    subst hg
    obtain ⟨T, x', rfl, hT, rfl, y⟩ := y
    obtain ⟨e, he, rfl⟩ := numb_get ds 0 i hd
    obtain ⟨v, q1, q2⟩ := r.get he
    have q3 := y vs (.inl (.inl (S.sub.ex (l.fo _ _ h))))
    rw [q1] at q3
    cases q3
    exact S.pair hT (by simp [Rp]) (Rp.mono l _ _ q2)
theorem itd_enumT {g : Gm} {K : PySem.W.Frag} {ι : List Addr} {F : Hp} {a : Addr} {ds : List D} {vs : List V} (h : F a = some (.tup vs)) (r : RpL g ι F ds vs) : ItD g (IteT K a) ι F (numb 0 ds) where
  go := fun i Γ w ι' F' σ H S _ l hi => by
    rw [numb_len] at hi
    have e := S.sub.ex (l.fo _ _ h)
    exact ⟨vs, vs[i]'(by rw [r.length]; exact hi), .inl (.inl e), List.getElem?_eq_getElem _⟩
  st := fun i Γ w ι' F' σ H S _ l hi => ⟨vs, .inl (.inl (S.sub.ex (l.fo _ _ h))), by rw [numb_len] at hi; rw [r.length]; exact hi⟩
  yl := fun i d Γ w ι' F' σ H x H' S hg l hd y => by
    subst hg
    obtain ⟨T, x', rfl, hT, rfl, y⟩ := y
    obtain ⟨e, he, rfl⟩ := numb_get ds 0 i hd
    obtain ⟨v, q1, q2⟩ := r.get he
    have q3 := y vs (.inl (.inl (S.sub.ex (l.fo _ _ h))))
    rw [q1] at q3
    cases q3
    exact S.pair hT (by simp [Rp]) (Rp.mono l _ _ q2)
def zipP : List D → List D → List D
  | d :: ds, e :: es => .tup [d, e] :: zipP ds es
  | _, _ => []
theorem zipP_len : ∀ (ds es : List D), (zipP ds es).length = min ds.length es.length
  | [], es => by simp [zipP]
  | d :: ds, [] => by simp [zipP]
  | d :: ds, e :: es => by simp [zipP, zipP_len ds es]
theorem zipP_get : ∀ (ds es : List D) (i : Nat) {d : D}, (zipP ds es)[i]? = some d → ∃ x y, ds[i]? = some x ∧ es[i]? = some y ∧ d = .tup [x, y]
  | [], _, _, _, h => by simp [zipP] at h
  | d :: ds, [], _, _, h => by simp [zipP] at h
  | d :: ds, e :: es, 0, _, h => by
    simp [zipP] at h
    exact ⟨d, e, rfl, rfl, h.symm⟩
  | d :: ds, e :: es, i + 1, _, h => by
    obtain ⟨x, y, h1, h2, h3⟩ := zipP_get ds es i (by simpa [zipP] using h)
    exact ⟨x, y, by simpa using h1, by simpa using h2, h3⟩
theorem itd_zipL {g : Gm} {K : PySem.W.Frag} {ι : List Addr} {F : Hp} {a b : Addr} {ds es : List D} {vs us : List V} (h : F a = some (.lst vs)) (r : RpL g ι F ds vs) (h2 : F b = some (.lst us)) (r2 : RpL g ι F es us) : ItD g (Itz K a b) ι F (zipP ds es) where
  go := fun i Γ w ι' F' σ H S _ l hi => by
    rw [zipP_len] at hi
    have e := S.sub.ex (l.fo _ _ h)
    have e2 := S.sub.ex (l.fo _ _ h2)
    exact ⟨vs, us, vs[i]'(by rw [r.length]; omega), us[i]'(by rw [r2.length]; omega), .inl (.inl e), .inl (.inl e2), List.getElem?_eq_getElem _, List.getElem?_eq_getElem _⟩
  st := fun i Γ w ι' F' σ H S _ l hi => ⟨vs, us, .inl (.inl (S.sub.ex (l.fo _ _ h))), .inl (.inl (S.sub.ex (l.fo _ _ h2))), by rw [zipP_len] at hi; rw [r.length, r2.length]; omega⟩
  yl := fun i d Γ w ι' F' σ H x H' S hg l hd y => by
    subst hg
    obtain ⟨T, x', y', rfl, hT, rfl, y1, y2⟩ := y
    obtain ⟨e, e2, he, he2, rfl⟩ := zipP_get ds es i hd
    obtain ⟨v, q1, q2⟩ := r.get he
    obtain ⟨v2, p1, p2⟩ := r2.get he2
    have q3 := y1 vs (.inl (.inl (S.sub.ex (l.fo _ _ h))))
    have p3 := y2 us (.inl (.inl (S.sub.ex (l.fo _ _ h2))))
    rw [q1] at q3
    rw [p1] at p3
    cases q3
    cases p3
    exact S.pair hT (Rp.mono l _ _ q2) (Rp.mono l _ _ p2)
theorem itd_zipT {g : Gm} {K : PySem.W.Frag} {ι : List Addr} {F : Hp} {a b : Addr} {ds es : List D} {vs us : List V} (h : F a = some (.tup vs)) (r : RpL g ι F ds vs) (h2 : F b = some (.tup us)) (r2 : RpL g ι F es us) : ItD g (RZ.ItzT K a b) ι F (zipP ds es) where
  go := fun i Γ w ι' F' σ H S _ l hi => by
    rw [zipP_len] at hi
    have e := S.sub.ex (l.fo _ _ h)
    have e2 := S.sub.ex (l.fo _ _ h2)
    exact ⟨vs, us, vs[i]'(by rw [r.length]; omega), us[i]'(by rw [r2.length]; omega), .inl (.inl e), .inl (.inl e2), List.getElem?_eq_getElem _, List.getElem?_eq_getElem _⟩
  st := fun i Γ w ι' F' σ H S _ l hi => ⟨vs, us, .inl (.inl (S.sub.ex (l.fo _ _ h))), .inl (.inl (S.sub.ex (l.fo _ _ h2))), by rw [zipP_len] at hi; rw [r.length, r2.length]; omega⟩
  yl := fun i d Γ w ι' F' σ H x H' S hg l hd y => by
    subst hg
    obtain ⟨T, x', y', rfl, hT, rfl, y1, y2⟩ := y
    obtain ⟨e, e2, he, he2, rfl⟩ := zipP_get ds es i hd
    obtain ⟨v, q1, q2⟩ := r.get he
    obtain ⟨v2, p1, p2⟩ := r2.get he2
    have q3 := y1 vs (.inl (.inl (S.sub.ex (l.fo _ _ h))))
    have p3 := y2 us (.inl (.inl (S.sub.ex (l.fo _ _ h2))))
    rw [q1] at q3
    rw [p1] at p3
    cases q3
    cases p3
    exact S.pair hT (Rp.mono l _ _ q2) (Rp.mono l _ _ p2)
/-- lo, lo + 1, .. -/
def rgL (lo : Int) : Nat → List D
  | 0 => []
  | n + 1 => .int lo :: rgL (lo + 1) n
theorem rgL_len : ∀ (n : Nat) (lo : Int), (rgL lo n).length = n
  | 0, _ => rfl
  | n + 1, lo => by simp [rgL, rgL_len n]
theorem rgL_get : ∀ (n : Nat) (lo : Int) (i : Nat) {d : D}, (rgL lo n)[i]? = some d → d = .int (lo + i)
  | 0, _, _, _, h => by simp [rgL] at h
  | n + 1, lo, 0, d, h => by simp [rgL] at h; simp [← h]
  | n + 1, lo, i + 1, d, h => by
    have := rgL_get n (lo + 1) i (by simpa [rgL] using h)
    rw [this]
    congr 1
    omega
theorem itd_rng {g : Gm} {ι : List Addr} {F : Hp} (lo : Int) (n : Nat) : ItD g (Itr lo n) ι F (rgL lo n) where
  go := fun i Γ w ι' F' σ H S _ l hi => by rw [rgL_len] at hi; exact hi
  st := fun i Γ w ι' F' σ H S _ l hi => by rw [rgL_len] at hi; exact hi
  yl := fun i d Γ w ι' F' σ H x H' S hg l hd y => by
    obtain ⟨rfl, rfl⟩ := y
    rw [rgL_get n lo i hd]
    exact ⟨F', S, Le.refl _ _, rfl⟩
def rgC (lo c : Int) : Nat → List D
  | 0 => []
  | n + 1 => .int lo :: rgC (lo + c) c n
theorem rgC_len : ∀ (n : Nat) (lo c : Int), (rgC lo c n).length = n
  | 0, _, _ => rfl
  | n + 1, lo, c => by simp [rgC, rgC_len n]
theorem rgC_get : ∀ (n : Nat) (lo c : Int) (i : Nat) {d : D}, (rgC lo c n)[i]? = some d → d = .int (lo + i * c)
  | 0, _, _, _, _, h => by simp [rgC] at h
  | n + 1, lo, c, 0, d, h => by simp [rgC] at h; simp [← h]
  | n + 1, lo, c, i + 1, d, h => by
    have := rgC_get n (lo + c) c i (by simpa [rgC] using h)
    rw [this]
    congr 1
    push_cast
    rw [Int.add_mul]
    omega
theorem itd_rngC {g : Gm} {ι : List Addr} {F : Hp} (lo c : Int) (n : Nat) : ItD g (Itc lo c n) ι F (rgC lo c n) where
  go := fun i Γ w ι' F' σ H S _ l hi => by rw [rgC_len] at hi; exact hi
  st := fun i Γ w ι' F' σ H S _ l hi => by rw [rgC_len] at hi; exact hi
  yl := fun i d Γ w ι' F' σ H x H' S hg l hd y => by
    obtain ⟨rfl, rfl⟩ := y
    rw [rgC_get n lo c i hd]
    exact ⟨F', S, Le.refl _ _, rfl⟩

section
variable {X : Cx} {Γ : Fr} {a b c e tg : Expr} {ma mb mc me : M D} {na nb nc : M Bool} {pos tpos : Pos} {es elts : List Expr} {kk : Nat} {ml : M (List D)}
def seqD : D → Option (List D)
  | .lst ds => some ds
  | .tup ds => some ds
  | _ => none
def iSq (m : M D) : M (List D) := m.bnd fun d => M.opt (seqD d)
theorem opt_inv {α : Type} {o : Option α} {w : W} {Γ : Fr} {k : α → W → Prop} (h : RR Γ (M.opt o w) k) : ∃ a, o = some a ∧ k a w := by
  cases o with
  | none => exact h.elim
  | some a => exact ⟨a, rfl, h⟩
theorem di_seq (he : DE X Γ e me) : DI X Γ tg e (iSq me) := ⟨(pi_seq he.pe).imp fun σ H R ⟨w, ι, F, S, h⟩ => ⟨w, ι, F, S, (RR.bnd h).mono fun d w1 h1 => by
  intro ι1 F1 H1 v1 S1 l1 r1
  obtain ⟨ds, hd, h1⟩ := opt_inv h1
  cases d with
  | lst ds =>
    cases hd
    obtain ⟨p, vs, rfl, q1, q2⟩ := r1
    exact ⟨p, rfl, .inl ⟨vs, .inl (.inl (S1.sub.ex q1)), h1 ι1 F1 H1 _ S1 l1 (itd_list q1 q2)⟩⟩
  | tup ds =>
    cases hd
    obtain ⟨p, vs, rfl, q1, q2⟩ := r1
    exact ⟨p, rfl, .inr ⟨vs, .inl (.inl (S1.sub.ex q1)), h1 ι1 F1 H1 _ S1 l1 (itd_tup q1 q2)⟩⟩
  | _ => cases hd⟩⟩
def r1D : List D → Option (List D)
  | [.int j] => if -(2 ^ 62) ≤ j ∧ j < 2 ^ 62 then some (rgL 0 j.toNat) else none
  | _ => none
def r2D : List D → Option (List D)
  | [.int i, .int j] => if -(2 ^ 62) ≤ i ∧ i < 2 ^ 62 ∧ -(2 ^ 62) ≤ j ∧ j < 2 ^ 62 then some (rgL i (j - i).toNat) else none
  | _ => none
/-- range(i, j, -1) -/
def r3D : List D → Option (List D)
  | [.int i, .int j, .int c] => if c = -1 ∧ -(2 ^ 62) ≤ i ∧ i < 2 ^ 62 ∧ -(2 ^ 62) ≤ j ∧ j < 2 ^ 62 then some (rgC i (-1) (i - j).toNat) else none
  | _ => none
def iRg (f : List D → Option (List D)) (m : M (List D)) : M (List D) := m.bnd fun d => M.opt (f d)
theorem di_range1 {p : Pos} (hg : Gl X "range") (hm : X.mg "range" = none) (ha : DA X Γ [a] ml) (hs : starEach [a] X.env = [(false, eval a X.env)] := by rfl) : DI X Γ tg (.Call (.Name "range" p) [a] [] pos) (iRg r1D ml) :=
  ⟨(pi_range1 hg hm ha.pa hs).imp fun σ H R ⟨w, ι, F, S, h⟩ => ⟨w, ι, F, S, (RR.bnd h).mono fun d w1 h1 => by
    intro ι1 F1 H1 v1 S1 l1 r1
    obtain ⟨ds, hd, h1⟩ := opt_inv h1
    unfold r1D at hd
    split at hd
    · split at hd
      · rename_i hz
        cases hd
        obtain ⟨v, r, rfl, q1, q2⟩ := r1
        cases q1
        cases q2
        exact ⟨_, rfl, hz.1, hz.2, h1 ι1 F1 H1 _ S1 l1 (itd_rng 0 _)⟩
      · cases hd
    · cases hd⟩⟩
theorem di_range2 {p : Pos} (hg : Gl X "range") (hm : X.mg "range" = none) (ha : DA X Γ [a, b] ml) (hs : starEach [a, b] X.env = [(false, eval a X.env), (false, eval b X.env)] := by rfl) (hs2 : starEach [b] X.env = [(false, eval b X.env)] := by rfl) : DI X Γ tg (.Call (.Name "range" p) [a, b] [] pos) (iRg r2D ml) :=
  ⟨(pi_range2 hg hm ha.pa hs hs2).imp fun σ H R ⟨w, ι, F, S, h⟩ => ⟨w, ι, F, S, (RR.bnd h).mono fun d w1 h1 => by
    intro ι1 F1 H1 v1 S1 l1 r1
    obtain ⟨ds, hd, h1⟩ := opt_inv h1
    unfold r2D at hd
    split at hd
    · split at hd
      · rename_i hz
        cases hd
        obtain ⟨v, r, rfl, q1, v2, r2, rfl, q2, q3⟩ := r1
        cases q1
        cases q2
        cases q3
        exact ⟨_, _, rfl, hz, h1 ι1 F1 H1 _ S1 l1 (itd_rng _ _)⟩
      · cases hd
    · cases hd⟩⟩
theorem di_range3 {p : Pos} (hg : Gl X "range") (hm : X.mg "range" = none) (ha : DA X Γ [a, b, c] ml) (hs : starEach [a, b, c] X.env = (false, eval a X.env) :: starEach [b, c] X.env := by rfl) (hpl : (backTo pos (starEach [b, c] X.env)).any (·.1) = false := by rfl) : DI X Γ tg (.Call (.Name "range" p) [a, b, c] [] pos) (iRg r3D ml) :=
  ⟨(pi_range3 hg hm ha.pa hs hpl).imp fun σ H R ⟨w, ι, F, S, h⟩ => ⟨w, ι, F, S, (RR.bnd h).mono fun d w1 h1 => by
    intro ι1 F1 H1 v1 S1 l1 r1
    obtain ⟨ds, hd, h9⟩ := opt_inv h1
    unfold r3D at hd
    split at hd
    · split at hd
      · rename_i hz
        cases hd
        obtain ⟨hc, z1, z2, z3, z4⟩ := hz
        subst hc
        obtain ⟨v, r, rfl, q1, v2, r2, rfl, q2, v3, r3, rfl, q3, q4⟩ := r1
        cases q1
        cases q2
        cases q3
        cases q4
        exact ⟨_, _, _, _, rfl, RgC.neg z1 z2 z3 z4, h9 ι1 F1 H1 _ S1 l1 (itd_rngC _ _ _)⟩
      · cases hd
    · cases hd⟩⟩
def enD : List D → Option (List D)
  | [.lst ds] => some (numb 0 ds)
  | [.tup ds] => some (numb 0 ds)
  | _ => none
def zpD : List D → Option (List D)
  | [.lst ds, .lst es] => some (zipP ds es)
  | [.tup ds, .tup es] => some (zipP ds es)
  | _ => none
theorem di_enum {p : Pos} (hg : Gl X "enumerate") (hm : X.mg "enumerate" = none) (ha : DA X Γ [e] ml) (hs : starEach [e] X.env = [(false, eval e X.env)] := by rfl) : DI X Γ (.Tuple elts kk tpos) (.Call (.Name "enumerate" p) [e] [] pos) (iRg enD ml) :=
  ⟨(pi_enumA hg hm ha.pa hs).imp fun σ H R ⟨w, ι, F, S, h⟩ => ⟨w, ι, F, S, (RR.bnd h).mono fun d w1 h1 => by
    intro ι1 F1 H1 v1 S1 l1 r1
    obtain ⟨ds, hd, h1⟩ := opt_inv h1
    unfold enD at hd
    split at hd
    · cases hd
      obtain ⟨v, r, rfl, ⟨p, vs, rfl, q1, q2⟩, q3⟩ := r1
      cases q3
      exact ⟨p, rfl, .inl ⟨vs, .inl (.inl (S1.sub.ex q1)), h1 ι1 F1 H1 _ S1 l1 (itd_enumL q1 q2)⟩⟩
    · cases hd
      obtain ⟨v, r, rfl, ⟨p, vs, rfl, q1, q2⟩, q3⟩ := r1
      cases q3
      exact ⟨p, rfl, .inr ⟨vs, .inl (.inl (S1.sub.ex q1)), h1 ι1 F1 H1 _ S1 l1 (itd_enumT q1 q2)⟩⟩
    · cases hd⟩⟩
theorem di_zip {p : Pos} (hg : Gl X "zip") (hm : X.mg "zip" = none) (ha : DA X Γ [a, b] ml) (hs : starEach [a, b] X.env = (false, eval a X.env) :: starEach [b] X.env := by rfl) (hpl : (backTo pos (starEach [b] X.env)).any (·.1) = false := by rfl) : DI X Γ (.Tuple elts kk tpos) (.Call (.Name "zip" p) [a, b] [] pos) (iRg zpD ml) :=
  ⟨(RZ.pi_zipA hg hm ha.pa hs hpl).imp fun σ H R ⟨w, ι, F, S, h⟩ => ⟨w, ι, F, S, (RR.bnd h).mono fun d w1 h1 => by
    intro ι1 F1 H1 v1 S1 l1 r1
    obtain ⟨ds, hd, h1⟩ := opt_inv h1
    unfold zpD at hd
    split at hd
    · cases hd
      obtain ⟨v, r, rfl, ⟨p, vs, rfl, q1, q2⟩, v2, r2, rfl, ⟨p2, us, rfl, q3, q4⟩, q5⟩ := r1
      cases q5
      exact ⟨p, p2, vs, us, rfl, .inl ⟨.inl (.inl (S1.sub.ex q1)), .inl (.inl (S1.sub.ex q3)), h1 ι1 F1 H1 _ S1 l1 (itd_zipL q1 q2 q3 q4)⟩⟩
    · cases hd
      obtain ⟨v, r, rfl, ⟨p, vs, rfl, q1, q2⟩, v2, r2, rfl, ⟨p2, us, rfl, q3, q4⟩, q5⟩ := r1
      cases q5
      exact ⟨p, p2, vs, us, rfl, .inr ⟨.inl (.inl (S1.sub.ex q1)), .inl (.inl (S1.sub.ex q3)), h1 ι1 F1 H1 _ S1 l1 (itd_zipT q1 q2 q3 q4)⟩⟩
    · cases hd⟩⟩

/-! ### for, while -/
def loopK (f : Fl) (k : M Fl) : M Fl := match f with
  | .nx => k
  | .ct => k
  | .bk => M.ret .nx
  | .rt d => M.ret (.rt d)
def forL (as : D → M Unit) (mb : M Fl) : List D → M Fl
  | [] => M.ret .nx
  | d :: ds => (as d).bnd fun _ => mb.bnd fun f => loopK f (forL as mb ds)
def sFor (mi : M (List D)) (as : D → M Unit) (mb : M Fl) : M Fl := mi.bnd (forL as mb)
theorem ds_for {iter : Expr} {body : List Stmt} {mi : M (List D)} {as : D → M Unit} {mb : M Fl} (hp : PassesOwn (model X.prog X.w) X.A X.env X.xe) (hc : X.calm = true) (hi : DI X Γ tg iter mi) (hg : DG X Γ tg as) (hb : DB X Γ body mb)
    (hs : ∀ x, foldedSetIterable iter X.env x = pure x := by intro _; rfl) : DS X Γ (.For tg iter body [] pos) (sFor mi as mb) :=
  ⟨(ps_for hp hc hi.pi hg.pg hb.ps hs).imp fun E σ H ⟨w, ι, F, S, h⟩ => ⟨w, ι, F, S, (RR.bnd h).mono fun ds w1 h1 => by
    intro ι1 F1 H1 J S1 l1 it
    refine ⟨fun i m σ H => m = ds.length - i ∧ i ≤ ds.length ∧ ∃ w ι' F', SR Γ w ι' F' σ H ∧ Le ι1 F1 ι' F' ∧ RR Γ (forL as mb (ds.drop i) w) (PoF Γ ι F E), ⟨_, rfl, Nat.zero_le _, w1, ι1, F1, S1, Le.refl _ _, h1⟩, ?_⟩
    rintro i m σ2 H2 ⟨rfl, hi, w2, ι2, F2, S2, l2, h2⟩
    by_cases hlt : i < ds.length
    · refine .inr ⟨it.go i Γ w2 ι2 F2 σ2 H2 S2 rfl l2 hlt, fun σ' H' => ∃ w ι' F', SR Γ w ι' F' σ' H' ∧ Le ι1 F1 ι' F' ∧ RR Γ (forL as mb (ds.drop (i + 1)) w) (PoF Γ ι F E), fun σ' H' q => ⟨ds.length - (i + 1), by omega, rfl, hlt, q⟩, fun x H' y => ?_⟩
      have hd : ds[i]? = some ds[i] := List.getElem?_eq_getElem hlt
      obtain ⟨F3, S3, l3, r3⟩ := it.yl i _ Γ w2 ι2 F2 σ2 H2 x H' S2 rfl l2 hd y
      rw [List.drop_eq_getElem_cons hlt] at h2
      refine ⟨w2, ι2, F3, _, S3, r3, (RR.bnd (show RR Γ ((as ds[i] w2).andThen _) _ from h2)).mono fun _ w4 h4 => ?_⟩
      intro ι4 F4 σ4 H4 S4 l4
      refine ⟨w4, ι4, F4, S4, (RR.bnd (show RR Γ ((mb w4).andThen _) _ from h4)).mono fun f w5 h5 => ?_⟩
      have l04 : Le ι1 F1 ι4 F4 := l2.trans (l3.trans l4)
      cases f with
      | nx => exact fun ι5 F5 σ5 H5 S5 l5 => ⟨w5, ι5, F5, S5, l04.trans l5, h5⟩
      | ct => exact fun ι5 F5 σ5 H5 S5 l5 => ⟨w5, ι5, F5, S5, l04.trans l5, h5⟩
      | bk => exact fun ι5 F5 σ5 H5 S5 l5 => (show PoF Γ ι F E .nx w5 from h5) ι5 F5 σ5 H5 S5 (l1.trans (l04.trans l5))
      | rt d => exact fun ι5 F5 σ5 H5 v S5 l5 r5 => (show PoF Γ ι F E (.rt d) w5 from h5) ι5 F5 σ5 H5 v S5 (l1.trans (l04.trans l5)) r5
    · have e : i = ds.length := by omega
      refine .inl ⟨it.st i Γ w2 ι2 F2 σ2 H2 S2 rfl l2 (by omega), ?_⟩
      rw [e, List.drop_length] at h2
      exact (show PoF Γ ι F E .nx w2 from h2) ι2 F2 σ2 H2 S2 (l1.trans l2)⟩⟩
def whileL (c : M Bool) (mb : M Fl) : Nat → M Fl
  | 0 => M.no
  | n + 1 => c.bnd fun k => if k = true then mb.bnd fun f => loopK f (whileL c mb n) else M.ret .nx
theorem ds_while {body : List Stmt} {mb : M Fl} (n : Nat) (hp : PassesOwn (model X.prog X.w) X.A X.env X.xe) (hc : DT X Γ c nc) (hb : DB X Γ body mb) : DS X Γ (.While c body [] pos) (whileL nc mb n) :=
  ⟨(ps_while hp hc.pt hb.ps).imp fun E σ H ⟨w, ι, F, S, h⟩ => by
    refine ⟨fun m σ H => ∃ w ι' F', SR Γ w ι' F' σ H ∧ Le ι F ι' F' ∧ RR Γ (whileL nc mb m w) (PoF Γ ι F E), ⟨n, w, ι, F, S, Le.refl _ _, h⟩, ?_⟩
    rintro m σ1 H1 ⟨w1, ι1, F1, S1, l1, h1⟩
    cases m with
    | zero => exact h1.elim
    | succ m =>
      refine ⟨w1, ι1, F1, S1, (RR.bnd (show RR Γ ((nc w1).andThen _) _ from h1)).mono fun k w2 h2 => ?_⟩
      intro ι2 F2 H2 S2 l2
      cases k with
      | false =>
        rw [if_neg Bool.false_ne_true] at h2 ⊢
        exact (show PoF Γ ι F E .nx w2 from h2) ι2 F2 σ1 H2 S2 (l1.trans l2)
      | true =>
        rw [if_pos rfl] at h2 ⊢
        refine ⟨fun σ' H' => ∃ w ι' F', SR Γ w ι' F' σ' H' ∧ Le ι F ι' F' ∧ RR Γ (whileL nc mb m w) (PoF Γ ι F E), fun σ' H' q => ⟨m, Nat.lt_succ_self _, q⟩, w2, ι2, F2, S2, (RR.bnd (show RR Γ ((mb w2).andThen _) _ from h2)).mono fun f w5 h5 => ?_⟩
        have l04 := l1.trans l2
        cases f with
        | nx => exact fun ι5 F5 σ5 H5 S5 l5 => ⟨w5, ι5, F5, S5, l04.trans l5, h5⟩
        | ct => exact fun ι5 F5 σ5 H5 S5 l5 => ⟨w5, ι5, F5, S5, l04.trans l5, h5⟩
        | bk => exact fun ι5 F5 σ5 H5 S5 l5 => (show PoF Γ ι F E .nx w5 from h5) ι5 F5 σ5 H5 S5 (l04.trans l5)
        | rt d => exact fun ι5 F5 σ5 H5 v S5 l5 r5 => (show PoF Γ ι F E (.rt d) w5 from h5) ι5 F5 σ5 H5 v S5 (l04.trans l5) r5⟩
end
end Dl


set_option Elab.async false
set_option linter.all false
set_option maxRecDepth 100000
set_option maxHeartbeats 4000000
namespace Dl
open PySem PySem.Spec PyProof.Rows L2

/-- a frame of the same kind, which no error leaves -/
def Inn (Γ' Γ : Fr) : Prop := Γ'.toGm = Γ.toGm ∧ ∀ x w, Γ'.ex x w → False
/-! ### slots of a block forgotten, and brought back -/
def wipeL (vs : List Nat) : Nat → List (Option (Bool × D)) → List (Option (Bool × D))
  | _, [] => []
  | i, a :: l => (if vs.contains i then none else a) :: wipeL vs (i + 1) l
def W.wipe (w : W) (vs : List Nat) : W := { w with sl := wipeL vs 0 w.sl }
def backL (vs : List Nat) : Nat → List (Option (Bool × D)) → List (Option (Bool × D)) → List (Option (Bool × D))
  | i, a :: as, b :: bs => (if vs.contains i then a else b) :: backL vs (i + 1) as bs
  | _, _, bs => bs
def W.back (w : W) (vs : List Nat) (w1 : W) : W := { w with sl := backL vs 0 w1.sl w.sl }
theorem wipeL_len (vs : List Nat) : ∀ (l : List (Option (Bool × D))) (k : Nat), (wipeL vs k l).length = l.length
  | [], _ => rfl
  | a :: l, k => by simp [wipeL, wipeL_len vs l]
theorem wipeL_get (vs : List Nat) : ∀ (l : List (Option (Bool × D))) (k i : Nat) (p : Bool × D), (wipeL vs k l)[i]? = some (some p) ↔ (k + i ∉ vs ∧ l[i]? = some (some p))
  | [], k, i, p => by simp [wipeL]
  | a :: l, k, 0, p => by
    by_cases h : vs.contains k = true
    · have : k ∈ vs := by simpa using h
      simp [wipeL, h, this]
    · have : k ∉ vs := by simpa using h
      simp [wipeL, this]
  | a :: l, k, i + 1, p => by
    have := wipeL_get vs l (k + 1) i p
    have e : k + (i + 1) = k + 1 + i := by omega
    rw [e]
    simpa [wipeL] using this
theorem backL_len (vs : List Nat) : ∀ (as bs : List (Option (Bool × D))) (k : Nat), (backL vs k as bs).length = bs.length
  | [], bs, _ => by cases bs <;> rfl
  | a :: as, [], _ => rfl
  | a :: as, b :: bs, k => by simp [backL, backL_len vs as bs]
theorem backL_get (vs : List Nat) : ∀ (as bs : List (Option (Bool × D))) (k i : Nat), as.length = bs.length → (backL vs k as bs)[i]? = if k + i ∈ vs then as[i]? else bs[i]?
  | [], [], k, i, _ => by simp [backL]
  | a :: as, b :: bs, k, 0, h => by
    by_cases q : k ∈ vs
    · simp [backL, q]
    · simp [backL, q]
  | a :: as, b :: bs, k, i + 1, h => by
    have := backL_get vs as bs (k + 1) i (by simpa using h)
    have e : k + (i + 1) = k + 1 + i := by omega
    rw [e]
    simpa [backL] using this
  | [], b :: bs, _, _, h => by simp at h
  | a :: as, [], _, _, h => by simp at h
section
variable {Γ : Fr} {w : W} {ι : List Addr} {F : Hp} {σ : L2.St} {H : Hp}
theorem SR.slots (S : SR Γ w ι F σ H) {sl' : List (Option (Bool × D))} {σ' : L2.St} (hl : sl'.length = σ'.length) (hs : ∀ (i : Nat) d, sl'[i]? = some (some (false, d)) → ∃ v, σ'[i]? = some (some v) ∧ Rp Γ.toGm ι F d v)
    (ho : ∀ (i : Nat) d, sl'[i]? = some (some (true, d)) → w.sl[i]? = some (some (true, d)) ∧ σ'[i]? = σ[i]?) : SR Γ { w with sl := sl' } ι F σ' H :=
by
  refine { S with slen := hl, slot := hs, own := fun i d h => ?_, own2 := fun i j d e a hij h1 h2 h3 => ?_, hid := fun p hp => ?_ }
  · obtain ⟨q1, q2⟩ := ho i d h
    obtain ⟨a, e, r⟩ := S.own i d q1
    exact ⟨a, by rw [q2]; exact e, r⟩
  · obtain ⟨q1, q2⟩ := ho i d h1
    obtain ⟨q3, q4⟩ := ho j e h2
    rw [q2] at h3
    rw [q4]
    exact S.own2 i j d e a hij q1 q3 h3
  · obtain ⟨q1, q2, q3, q4, qt⟩ := S.hid p hp
    refine ⟨q1, q2, q3, fun j e h => ?_, qt⟩
    obtain ⟨q5, q6⟩ := ho j e h
    rw [q6]
    exact q4 j e q5
theorem SR.wipe (S : SR Γ w ι F σ H) (vs : List Nat) : SR Γ (w.wipe vs) ι F (L2.wipe σ vs) H := by
  refine S.slots (by rw [wipeL_len, wipe_length]; exact S.slen) (fun i d h => ?_) fun i d h => ?_
  · obtain ⟨h1, h2⟩ := (wipeL_get vs w.sl 0 i _).mp h
    rw [Nat.zero_add] at h1
    rw [wipe_out h1]
    exact S.slot i d h2
  · obtain ⟨h1, h2⟩ := (wipeL_get vs w.sl 0 i _).mp h
    rw [Nat.zero_add] at h1
    exact ⟨h2, wipe_out h1⟩
/-- no own list or dict in these slots -/
def noOwn : List Nat → List (Option (Bool × D)) → Bool
  | [], _ => true
  | v :: vs, l => (match l[v]? with | some (some (true, _)) => false | _ => true) && noOwn vs l
theorem noOwn_not : ∀ {vs : List Nat} {l : List (Option (Bool × D))} {v : Nat} {d : D}, noOwn vs l = true → v ∈ vs → l[v]? ≠ some (some (true, d))
  | u :: vs, l, v, d, h, m, e => by
    simp only [noOwn, Bool.and_eq_true] at h
    rcases List.mem_cons.mp m with rfl | m
    · rw [e] at h
      exact absurd h.1 (by simp)
    · exact noOwn_not h.2 m e
theorem SR.back {w1 : W} {ι1 : List Addr} {F1 H1 : Hp} {vs : List Nat} (S : SR Γ (w.wipe vs) ι F (L2.wipe σ vs) H) (S1 : SR Γ w1 ι1 F1 σ H1) (l : Le ι1 F1 ι F) (no : noOwn vs w1.sl = true) : SR Γ (w.back vs w1) ι F σ H := by
  have e1 : w.sl.length = σ.length := by
    have := S.slen
    rw [wipe_length] at this
    rw [← this]
    exact (wipeL_len vs w.sl 0).symm
  have hl : w1.sl.length = w.sl.length := by rw [e1]; exact S1.slen
  refine (S.slots (sl' := backL vs 0 w1.sl w.sl) (σ' := σ) (by rw [backL_len]; exact e1) (fun i d h => ?_) fun i d h => ?_ : SR Γ { (w.wipe vs) with sl := backL vs 0 w1.sl w.sl } ι F σ H)
  · rw [backL_get vs _ _ 0 i hl, Nat.zero_add] at h
    split at h
    · obtain ⟨v, e, r⟩ := S1.slot i d h
      exact ⟨v, e, Rp.mono l _ _ r⟩
    · rename_i hi
      obtain ⟨v, e, r⟩ := S.slot i d ((wipeL_get vs w.sl 0 i _).mpr ⟨by rw [Nat.zero_add]; exact hi, h⟩)
      rw [wipe_out hi] at e
      exact ⟨v, e, r⟩
  · rw [backL_get vs _ _ 0 i hl, Nat.zero_add] at h
    split at h
    · rename_i hi
      exact absurd h (noOwn_not no hi)
    · rename_i hi
      exact ⟨(wipeL_get vs w.sl 0 i _).mpr ⟨by rw [Nat.zero_add]; exact hi, h⟩, (wipe_out hi).symm⟩

/-! ### a list that grows, not yet named -/
def Fr.hd (Γ : Fr) (p : Addr) (o : HO) : Fr := { Γ with hid := (p, o) :: Γ.hid, ex := fun _ _ => False }
theorem SR.addHid (S : SR Γ w ι F σ H) {p : Addr} {d : D} {o : HO} (ow : Ow Γ w ι F σ H p d) (e : H p = some o) : SR (Γ.hd p o) w ι F σ H :=
by
  refine { S with hid := fun q hq => ?_ }
  rcases List.mem_cons.mp hq with z | z
  · rw [z]
    refine ⟨e, ow.f, ow.i, ow.o, fun ps z => ?_⟩
    obtain ⟨u, h1, h2⟩ := ow.r.some
    rw [e] at h1
    exact h2 ps ((Option.some.inj h1).symm.trans z)
  · exact S.hid q z
theorem SR.subHid {p : Addr} {o : HO} (S : SR (Γ.hd p o) w ι F σ H) : SR Γ w ι F σ H := { S with hid := fun q hq => S.hid q (List.mem_cons_of_mem _ hq) }
theorem SR.wrH {p : Addr} {o o' : HO} (S : SR (Γ.hd p o) w ι F σ H) (n0 : Γ.H0 p = none) (ht' : ∀ ps, o' ≠ .tbl ps) (nh : ∀ q ∈ Γ.hid, q.1 ≠ p) : SR (Γ.hd p o') w ι F σ (upd H p o') := by
  obtain ⟨e, f, ni, no, ht⟩ := S.hid (p, o) (List.mem_cons_self ..)
  have kH : ∀ a u, a ≠ p → H a = some u → upd H p o' a = some u := fun a u ha h => by rw [upd_ne ha]; exact h
  have n00 : (Γ.hd p o).H0 p = none := n0
  refine { S with sub := fun a u h => ?_, kp := fun a u h1 h2 h3 => ?_, kt := fun a ps h => ?_, tab := fun P hP => ?_, own := fun i d h => ?_, hid := fun q hq => ?_, sto := fun m u a h1 h2 => ?_ }
  · have ha : a ≠ p := fun z => by rw [z] at h; rw [show F p = none from f] at h; cases h
    rcases S.sub a u h with q | ⟨q, ob, r⟩
    · exact .inl (kH _ _ ha q)
    · exact .inr ⟨q, ob, kH _ _ ha r⟩
  · have ha : a ≠ p := fun z => by rw [z, show (Γ.hd p o').H0 p = none from n0] at h1; cases h1
    rcases S.kp a u h1 h2 h3 with q | ⟨q, ob, r⟩
    · exact .inl (kH _ _ ha q)
    · exact .inr ⟨q, ob, kH _ _ ha r⟩
  · have ha : a ≠ p := fun z => by rw [z, show (Γ.hd p o').H0 p = none from n0] at h; cases h
    obtain ⟨ps', q⟩ := S.kt a ps h
    exact ⟨ps', kH _ _ ha q⟩
  · refine (S.tab P hP).up (fun ps q => kH _ _ (fun z => ?_) q) (fun _ _ e => e) fun a u z q => kH _ _ (fun y => ?_) q
    · rw [z] at q
      rw [show H p = some o from e] at q
      exact ht ps (Option.some.inj q)
    · rw [y, show F p = none from f] at z
      cases z
  · obtain ⟨a, q1, q2, q3, q4, q5⟩ := S.own i d h
    have ha : a ≠ p := fun z => no i d h (by rw [← z]; exact q1)
    refine ⟨a, q1, q2, q3, q4, ?_⟩
    cases d with
    | lst ds => obtain ⟨vs, z1, z2⟩ := q5; exact ⟨vs, kH _ _ ha z1, z2⟩
    | dct t ks => obtain ⟨u, vs, z1, z2⟩ := q5; exact ⟨u, vs, kH _ _ ha z1, z2⟩
    | _ => exact q5.elim
  · rcases List.mem_cons.mp hq with z | z
    · rw [z]
      exact ⟨upd_same, f, ni, no, ht'⟩
    · obtain ⟨q1, q2⟩ := S.hid q (List.mem_cons_of_mem _ z)
      exact ⟨kH _ _ (nh q z) q1, q2⟩
  · obtain ⟨q1, q2⟩ := S.sto m u a h1 h2
    have ha : a ≠ p := fun z => ni (by rw [← z]; exact List.mem_of_getElem? h2)
    refine ⟨q1, ?_⟩
    cases u with
    | lst ds => obtain ⟨vs, z1, z2⟩ := q2; exact ⟨vs, kH _ _ ha z1, z2⟩
    | dct t ks => obtain ⟨u, vs, z1, z2⟩ := q2; exact ⟨u, vs, ⟨z1.1.imp (kH _ _ ha) fun ⟨z, ob, r⟩ => ⟨z, ob, kH _ _ ha r⟩, fun y => kH _ _ ha (z1.2 y)⟩, z2⟩
    | ins c fs => obtain ⟨dx, gs, z1, z2⟩ := q2; exact ⟨dx, gs, kH _ _ ha z1, z2⟩
end

/-! ### a block's targets -/
structure DKt (X : Cx) (Γ : Fr) (tg : Expr) (ks : List Nat) (as : D → M Unit) : Prop where
  pg : PG X tg fun v σ H Q => ∃ w ι F d, SR Γ w ι F σ H ∧ Rp Γ.toGm ι F d v ∧ RR Γ (as d w) fun _ w' => ∀ ι' F' σ' H', SR Γ w' ι' F' σ' H' → Le ι F ι' F' → σ'.length = σ.length → (∀ j, j ∉ ks → σ'[j]? = σ[j]?) → Q σ' H'
structure DKs (X : Cx) (Γ : Fr) (tgs : List Expr) (ks : List Nat) (as : List D → M Unit) : Prop where
  pg : PGs X tgs fun vs σ H Q => ∃ w ι F ds, SR Γ w ι F σ H ∧ RpL Γ.toGm ι F ds vs ∧ RR Γ (as ds w) fun _ w' => ∀ ι' F' σ' H', SR Γ w' ι' F' σ' H' → Le ι F ι' F' → σ'.length = σ.length → (∀ j, j ∉ ks → σ'[j]? = σ[j]?) → Q σ' H'
section
variable {X : Cx} {Γ : Fr} {a b c e tg : Expr} {ma mb mc me : M D} {na nb nc : M Bool} {pos tpos : Pos} {es elts : List Expr} {kk : Nat} {ml : M (List D)}
theorem dk_name {i : Nat} {x : Str} (hN : X.N.Nodup) (hi : X.N[i]? = some x) (hx : Loc X.env.scope x) (hf : X.fn x = true ∨ X.env.scope.names.lookup x = some .local := by first | exact .inl rfl | exact .inr rfl) : DKt X Γ (.Name x pos) [i] (setF i) :=
  ⟨(pg_name hN hi hx hf).imp fun v σ H Q ⟨w, ι, F, d, S, r, h⟩ => by
    unfold setF at h
    split at h
    · refine h ι F _ H (S.setF (by assumption) r) (Le.refl _ _) (by rw [List.length_set]) fun j hj => ?_
      rw [List.getElem?_set_ne (fun z => hj (by simp [z]))]
    · exact h.elim⟩
theorem dks_nil : DKs X Γ [] [] tgN :=
  ⟨pgs_nil.imp fun vs σ H Q ⟨w, ι, F, ds, S, r, h⟩ => by
    unfold tgN at h
    cases ds with
    | nil => cases r; exact ⟨rfl, h ι F σ H S (Le.refl _ _) rfl fun _ _ => rfl⟩
    | cons _ _ => exact h.elim⟩
theorem dks_cons {tgs : List Expr} {ks k2 : List Nat} {as : D → M Unit} {bs : List D → M Unit} (h : DKt X Γ tg ks as) (k : DKs X Γ tgs k2 bs) (hst : (assignEach (tg :: tgs) X.env).map (·.2) = assign tg X.env :: (assignEach tgs X.env).map (·.2) := by rfl) : DKs X Γ (tg :: tgs) (ks ++ k2) (tgC as bs) :=
  ⟨(pgs_cons h.pg k.pg hst).imp fun vs σ H Q ⟨w, ι, F, ds, S, r, h⟩ => by
    unfold tgC at h
    cases ds with
    | nil => exact h.elim
    | cons d ds =>
      obtain ⟨u, vs, rfl, r1, r2⟩ := r
      refine ⟨u, vs, rfl, w, ι, F, d, S, r1, (RR.bnd (show RR Γ ((as d w).andThen _) _ from h)).mono fun _ w1 h1 => ?_⟩
      intro ι1 F1 σ1 H1 S1 l1 e1 a1
      exact ⟨w1, ι1, F1, ds, S1, RpL.mono l1 _ _ r2, RR.mono h1 fun _ w2 h2 => fun ι2 F2 σ2 H2 S2 l2 e2 a2 => h2 ι2 F2 σ2 H2 S2 (l1.trans l2) (e2.trans e1) fun j hj =>
        (a2 j fun z => hj (List.mem_append_right _ z)).trans (a1 j fun z => hj (List.mem_append_left _ z))⟩⟩
theorem dk_tup {tgs : List Expr} {k : Nat} {ks : List Nat} {bs : List D → M Unit} {n : Nat} (hc : X.calm = true) (h : DKs X Γ tgs ks bs) (hn : (assignEach tgs X.env).length = n := by rfl) (hst : (assignEach tgs X.env).findIdx? (·.1) = none := by rfl) : DKt X Γ (.Tuple tgs k pos) ks (tgT bs n) :=
  ⟨(pg_tup hc h.pg hn hst).imp fun v σ H Q ⟨w, ι, F, d, S, r, h⟩ => by
    unfold tgT at h
    split at h
    · split at h
      · obtain ⟨p, vs, rfl, h1, h2⟩ := r
        exact ⟨p, vs, rfl, .inl (.inl (S.sub.ex h1)), by rw [h2.length]; assumption, w, ι, F, _, S, h2, h⟩
      · exact h.elim
    · exact h.elim⟩
theorem wipe_in {σ : L2.St} {i : Nat} : ∀ {vs : List Nat}, i ∈ vs → (L2.wipe σ vs)[i]? = if i < σ.length then some none else none
  | v :: vs, h => by
    unfold L2.wipe
    by_cases e : v = i
    · subst e
      by_cases hv : v < (L2.wipe σ vs).length
      · rw [List.getElem?_set_self hv, if_pos (by rw [← wipe_length σ vs]; exact hv)]
      · rw [List.getElem?_eq_none (by rw [List.length_set]; omega), if_neg (by rw [← wipe_length σ vs]; exact hv)]
    · rw [List.getElem?_set_ne e]
      rcases List.mem_cons.mp h with z | z
      · exact absurd z.symm e
      · exact wipe_in z
theorem wipe_eq {σ σ2 : L2.St} {vs ks : List Nat} (hk : ∀ k ∈ ks, k ∈ vs) (hl : σ2.length = (L2.wipe σ vs).length) (h : ∀ j, j ∉ ks → σ2[j]? = (L2.wipe σ vs)[j]?) : L2.wipe σ2 vs = L2.wipe σ vs := by
  apply List.ext_getElem?
  intro j
  by_cases hj : j ∈ vs
  · rw [wipe_in hj, wipe_in hj, hl, wipe_length]
  · rw [wipe_out hj, h j fun z => hj (hk j z)]
/-- a clause's tests -/
structure DC (X : Cx) (Γ : Fr) (ifs : List Expr) (m : M Bool) : Prop where
  pt : PTs X ifs (tB Γ m)
theorem _root_.L2.PTs.imp {X : Cx} {e : List Expr} {t t' : TT} (h : PTs X e t) (k : ∀ σ H Q, t' σ H Q → t σ H Q) : PTs X e t' := ⟨fun pins s σ H Q I q => h.run pins s σ H Q I (k _ _ _ q)⟩
def cY : M Bool := M.ret true
theorem dc_nil : DC X Γ [] cY := ⟨pts_nil.imp fun σ H Q ⟨w, ι, F, S, h⟩ => (show PoB Γ ι F σ Q true w from h) ι F H S (Le.refl _ _)⟩
theorem dc_one (h : DT X Γ c nc) : DC X Γ [c] nc := ⟨pts_one h.pt⟩

/-! ### list comprehensions -/
def lcL (vs : List Nat) (as : D → M Unit) (ct : M Bool) (el : M D) : List D → M (List D)
  | [] => M.ret []
  | d :: ds => fun w => (as d (w.wipe vs)).andThen fun _ => ct.bnd fun k => if k = true then el.bnd fun y => (lcL vs as ct el ds).bnd fun r => M.ret (y :: r) else lcL vs as ct el ds
def eLc (vs : List Nat) (mi : M (List D)) (as : D → M Unit) (ct : M Bool) (el : M D) : M D := mi.bnd fun ds => fun w1 => if ds.length ≤ sizeLine ∧ noOwn vs w1.sl = true then
    (match lcL vs as ct el ds w1 with
    | .ok r w => .ok (.lst r) (w.back vs w1)
    | _ => .bad) else .bad
theorem andThen_inv {α β : Type} {r : R α} {f : α → M β} {b : β} {w : W} (h : r.andThen f = .ok b w) : ∃ a w1, r = .ok a w1 ∧ f a w1 = .ok b w := by
  cases r with
  | ok a w1 => exact ⟨a, w1, rfl, h⟩
  | exc x w1 => cases h
  | bad => cases h
/-- the terms of a block are given for all frames of its kind -/
def Ga (Γ : Fr) (t : Fr → TT) : TT := fun σ H Q => ∃ Γ' : Fr, Inn Γ' Γ ∧ t Γ' σ H Q
theorem lc_den {J : It} {σ : L2.St} {H1 : Hp} {Q : VK} {as : D → M Unit} {ct : M Bool} {el : M D} {vs ks : List Nat} {ds total : List D} {w1 wE : W} {ι1 : List Addr} {F1 : Hp} (S1 : SR Γ w1 ι1 F1 σ H1) (it : ItD Γ.toGm J ι1 F1 ds) (hk : ∀ k ∈ ks, k ∈ vs) (hz : ds.length ≤ sizeLine) (no : noOwn vs w1.sl = true)
    (hE : lcL vs as ct el ds w1 = .ok total wE) (q : PoW Γ ι1 F1 σ Q (.lst total) (wE.back vs w1)) : ∀ D, H1 D = none → ∃ W : Nat → Nat → Hp → Prop, (∃ m, W 0 m (upd H1 D (.lst []))) ∧ ∀ i m H, W i m H →
    (J.stop i H ∧ Q (.ref D) H) ∨ (J.go i H ∧ ∃ Nx : Hp → Prop, (∀ H', Nx H' → ∃ m', m' < m ∧ W (i + 1) m' H') ∧ ∀ x H', J.yld i H x H' →
      (∃ Γ' : Fr, Inn Γ' Γ ∧ ∃ w ι F d, SR Γ' w ι F (L2.wipe σ vs) H' ∧ Rp Γ'.toGm ι F d x ∧ RR Γ' (as d w) fun _ w' => ∀ ι' F' σ' H'', SR Γ' w' ι' F' σ' H'' → Le ι F ι' F' → σ'.length = (L2.wipe σ vs).length → (∀ j, j ∉ ks → σ'[j]? = (L2.wipe σ vs)[j]?) →
        L2.wipe σ' vs = L2.wipe σ vs ∧ Ga Γ (fun Γ' => tB Γ' ct) σ' H'' fun b H3 =>
          if b = true then (∃ Γ' : Fr, Inn Γ' Γ ∧ tD Γ' el σ' H3 fun y H4 => ∃ acc, H4 D = some (.lst acc) ∧ acc.length < sizeLine ∧ Nx (upd H4 D (.lst (acc ++ [y])))) else Nx H3)) := by
  intro D hD
  have n0 : Γ.H0 D = none := S1.free0 hD
  have nh : ∀ q ∈ Γ.hid, q.1 ≠ D := fun q hq z => by
    have := (S1.hid q hq).1
    rw [z, hD] at this
    cases this
  have Sh : SR (Γ.hd D (.lst [])) w1 ι1 F1 σ (upd H1 D (.lst [])) := (S1.hide hD).addHid (S1.ow (d := .lst []) hD ⟨[], upd_same, rfl⟩) upd_same
  refine ⟨fun i m H => m = ds.length - i ∧ i ≤ ds.length ∧ ∃ w ι F aV aD r, aD.length ≤ i ∧ SR (Γ.hd D (.lst aV)) (w.wipe vs) ι F (L2.wipe σ vs) H ∧ Le ι1 F1 ι F ∧ RpL Γ.toGm ι F aD aV ∧ lcL vs as ct el (ds.drop i) w = .ok r wE ∧ aD ++ r = total,
    ⟨_, rfl, Nat.zero_le _, w1, ι1, F1, [], [], total, Nat.le_refl _, Sh.wipe vs, Le.refl _ _, rfl, hE, rfl⟩, ?_⟩
  rintro i m H ⟨rfl, hi, w, ι, F, aV, aD, r, ha, S, l, ra, hL, hr⟩
  by_cases hlt : i < ds.length
  · refine .inr ⟨it.go i (Γ.hd D (.lst aV)) _ _ _ _ _ S rfl l hlt, fun H' => i + 1 ≤ ds.length ∧ ∃ w ι F aV aD r, aD.length ≤ i + 1 ∧ SR (Γ.hd D (.lst aV)) (w.wipe vs) ι F (L2.wipe σ vs) H' ∧ Le ι1 F1 ι F ∧ RpL Γ.toGm ι F aD aV ∧ lcL vs as ct el (ds.drop (i + 1)) w = .ok r wE ∧ aD ++ r = total, fun H' z => ⟨ds.length - (i + 1), by omega, rfl, z⟩, fun x H' y => ?_⟩
    have hd : ds[i]? = some ds[i] := List.getElem?_eq_getElem hlt
    obtain ⟨F2, S2, l2, r2⟩ := it.yl i _ (Γ.hd D (.lst aV)) _ _ _ _ _ x H' S rfl l hd y
    rw [List.drop_eq_getElem_cons hlt] at hL
    obtain ⟨_, w3, e3, hL⟩ := andThen_inv (show (as ds[i] (w.wipe vs)).andThen _ = _ from hL)
    refine ⟨Γ.hd D (.lst aV), ⟨rfl, fun _ _ h => h⟩, w.wipe vs, ι, F2, ds[i], S2, r2, ?_⟩
    rw [e3]
    intro ι3 F3 σ3 H3 S3 l3 sl3 ag3
    have we := wipe_eq hk sl3 ag3
    refine ⟨we, Γ.hd D (.lst aV), ⟨rfl, fun _ _ h => h⟩, w3, ι3, F3, S3, ?_⟩
    obtain ⟨k, w4, e4, hL⟩ := andThen_inv (show (ct w3).andThen _ = _ from hL)
    rw [e4]
    intro ι4 F4 H4 S4 l4
    have l04 : Le ι1 F1 ι4 F4 := l.trans (l2.trans (l3.trans l4))
    cases k with
    | false =>
      rw [if_neg Bool.false_ne_true] at hL ⊢
      have S4' := S4.wipe vs
      rw [we] at S4'
      exact ⟨hlt, w4, ι4, F4, aV, aD, r, by omega, S4', l04, RpL.mono (l2.trans (l3.trans l4)) _ _ ra, hL, hr⟩
    | true =>
      rw [if_pos rfl] at hL ⊢
      obtain ⟨z, w5, e5, hL⟩ := andThen_inv (show (el w4).andThen _ = _ from hL)
      obtain ⟨r', w6, e6, hL⟩ := andThen_inv (show (lcL vs as ct el (ds.drop (i + 1)) w5).andThen _ = _ from hL)
      cases hL
      refine ⟨Γ.hd D (.lst aV), ⟨rfl, fun _ _ h => h⟩, w4, ι4, F4, S4, ?_⟩
      rw [e5]
      intro ι5 F5 H5 v5 S5 l5 r5
      have hz5 := (S5.hid (D, .lst aV) (List.mem_cons_self ..)).1
      refine ⟨aV, hz5, by rw [ra.length]; omega, ?_⟩
      have S5' := (S5.wrH (o' := .lst (aV ++ [v5])) n0 (fun ps z => by cases z) nh).wipe vs
      rw [we] at S5'
      refine ⟨hlt, w5, ι5, F5, aV ++ [v5], aD ++ [z], r', by simp; omega, S5', l04.trans l5, ?_, e6, by simpa using hr⟩
      exact (RpL.mono (l2.trans (l3.trans (l4.trans l5))) _ _ ra).append (RpL.one r5)
  · have e : i = ds.length := by omega
    refine .inl ⟨it.st i (Γ.hd D (.lst aV)) _ _ _ _ _ S rfl l (by omega), ?_⟩
    rw [e, List.drop_length] at hL
    cases hL
    rw [List.append_nil] at hr
    subst hr
    obtain ⟨h1, h2, h3, h4, _⟩ := S.hid (D, .lst aV) (List.mem_cons_self ..)
    have SB := S.subHid.back S1 l no
    refine q ι F H D SB l ⟨h2, n0, h3, ⟨aV, h1, ra⟩, fun j e2 hj => ?_, nh⟩
    have hj' : (backL vs 0 w1.sl wE.sl)[j]? = some (some (true, e2)) := hj
    have hl : w1.sl.length = wE.sl.length := by
      have := S.slen
      rw [wipe_length] at this
      rw [S1.slen, ← this]
      exact wipeL_len vs wE.sl 0
    rw [backL_get vs _ _ 0 j hl, Nat.zero_add] at hj'
    split at hj'
    · exact absurd hj' (noOwn_not no (by assumption))
    · rename_i hjv
      rw [← wipe_out hjv]
      exact h4 j e2 ((wipeL_get vs wE.sl 0 j _).mpr ⟨by rw [Nat.zero_add]; exact hjv, hj'⟩)
theorem eLc_inv {vs : List Nat} {as : D → M Unit} {ct : M Bool} {el : M D} {ds : List D} {w1 : W} {k : D → W → Prop} (h : RR Γ ((fun w1 => if ds.length ≤ sizeLine ∧ noOwn vs w1.sl = true then
    (match lcL vs as ct el ds w1 with
    | .ok r w => .ok (.lst r) (w.back vs w1)
    | _ => .bad) else .bad : M D) w1) k) : ds.length ≤ sizeLine ∧ noOwn vs w1.sl = true ∧ ∃ total wE, lcL vs as ct el ds w1 = .ok total wE ∧ k (.lst total) (wE.back vs w1) := by
  have h : RR Γ (if ds.length ≤ sizeLine ∧ noOwn vs w1.sl = true then
    (match lcL vs as ct el ds w1 with
    | .ok r w => .ok (.lst r) (w.back vs w1)
    | _ => .bad) else .bad) k := h
  split at h
  · rename_i hz
    cases q : lcL vs as ct el ds w1 with
    | ok r w => rw [q] at h; exact ⟨hz.1, hz.2, r, w, rfl, h⟩
    | exc x w => rw [q] at h; exact h.elim
    | bad => rw [q] at h; exact h.elim
  · exact h.elim
section
variable {elt iter : Expr} {ifs : List Expr} {scope : Scope} {own : List (Str × Nat)} {vs ks : List Nat} {mi : M (List D)} {as : D → M Unit} {ct : M Bool} {el : M D}
/-- the terms -/
def gTg (Γ : Fr) (ks : List Nat) (as : D → M Unit) : TG := fun v σ H Q => ∃ Γ' : Fr, Inn Γ' Γ ∧ ∃ w ι F d, SR Γ' w ι F σ H ∧ Rp Γ'.toGm ι F d v ∧ RR Γ' (as d w) fun _ w' => ∀ ι' F' σ' H', SR Γ' w' ι' F' σ' H' → Le ι F ι' F' → σ'.length = σ.length → (∀ j, j ∉ ks → σ'[j]? = σ[j]?) → Q σ' H'
def gEl (Γ : Fr) (el : M D) : TE := fun σ H Q => ∃ Γ' : Fr, Inn Γ' Γ ∧ tD Γ' el σ H Q
theorem pg_all {X : Cx} (h : ∀ Γ' : Fr, Inn Γ' Γ → DKt X Γ' tg ks as) : PG X tg (gTg Γ ks as) := ⟨fun pins s σ H v u Q I r ⟨Γ', e, q⟩ => (h Γ' e).pg.run pins s σ H v u Q I r q⟩
theorem pt_all {X : Cx} (h : ∀ Γ' : Fr, Inn Γ' Γ → DC X Γ' ifs ct) : PTs X ifs (Ga Γ fun Γ' => tB Γ' ct) := ⟨fun pins s σ H Q I ⟨Γ', e, q⟩ => (h Γ' e).pt.run pins s σ H Q I q⟩
theorem pe_all {X : Cx} (h : ∀ Γ' : Fr, Inn Γ' Γ → DE X Γ' elt el) : PE X elt (gEl Γ el) := ⟨fun pins s σ H Q I ⟨Γ', e, q⟩ => (h Γ' e).pe.run pins s σ H Q I q⟩
theorem lc_go {σ : L2.St} {H : Hp} {Q : VK} (hk : ∀ k ∈ ks, k ∈ vs) (h : ∃ w ι F, SR Γ w ι F σ H ∧ RR Γ (eLc vs mi as ct el w) (PoW Γ ι F σ Q)) : tLc (tI Γ mi) (gTg Γ ks as) (Ga Γ fun Γ' => tB Γ' ct) (gEl Γ el) vs σ H Q := by
  obtain ⟨w, ι, F, S, h⟩ := h
  refine ⟨w, ι, F, S, (RR.bnd h).mono fun ds w1 h1 => ?_⟩
  intro ι1 F1 H1 J S1 l1 it
  obtain ⟨hz, no, total, wE, hE, q⟩ := eLc_inv h1
  exact lc_den (Q := Q) S1 it hk hz no hE (q.le l1)
theorem dn_lc (hc : X.calm = true) (hN : X.N.Nodup) (hi : DI X Γ tg iter mi) (ok : BlkOk X.N X.env.scope scope own) (hv : own.map (·.2) = vs) (hk : ∀ k ∈ ks, k ∈ vs)
    (hg : ∀ (s : Shared) (H : Hp) (C : Addr) (cl : List (Str × Addr)) (fp : List Addr) (Γ' : Fr), Inn Γ' Γ → DKt (X.blk s H scope (compEnvC scope cl C X.env) fp) Γ' tg ks as)
    (ht : ∀ (s : Shared) (H : Hp) (C : Addr) (cl : List (Str × Addr)) (fp : List Addr) (Γ' : Fr), Inn Γ' Γ → DC (X.blk s H scope (compEnvC scope cl C X.env) fp) Γ' ifs ct)
    (he : ∀ (s : Shared) (H : Hp) (C : Addr) (cl : List (Str × Addr)) (fp : List Addr) (Γ' : Fr), Inn Γ' Γ → DE (X.blk s H scope (compEnvC scope cl C X.env) fp) Γ' elt el)
    (hs : ∀ x, foldedSetIterable iter X.env x = pure x := by intro _; rfl) : DN X Γ (.ListComp elt [⟨tg, iter, ifs, 0⟩] scope pos) (eLc vs mi as ct el) := by
  subst hv
  exact ⟨(pe_lc hc hN hi.pi ok (fun s H C cl fp => pg_all (hg s H C cl fp)) (fun s H C cl fp => pt_all (ht s H C cl fp)) (fun s H C cl fp => pe_all (he s H C cl fp)) hs).imp fun σ H Q h => lc_go hk h⟩
/-- name = [..] on one line -/
theorem ds_ownLc {i : Nat} {spos : Pos} {y : Str} {py : Pos} (hc : X.calm = true) (hN : X.N.Nodup) (hy : X.N[i]? = some y) (hyl : X.env.scope.names.lookup y = some .local) (hi : DI X Γ tg iter mi) (ok : BlkOk X.N X.env.scope scope own) (hv : own.map (·.2) = vs) (hk : ∀ k ∈ ks, k ∈ vs)
    (hg : ∀ (s : Shared) (H : Hp) (C : Addr) (cl : List (Str × Addr)) (fp : List Addr) (Γ' : Fr), Inn Γ' Γ → DKt (X.blk s H scope (compEnvC scope cl C X.env) fp) Γ' tg ks as)
    (ht : ∀ (s : Shared) (H : Hp) (C : Addr) (cl : List (Str × Addr)) (fp : List Addr) (Γ' : Fr), Inn Γ' Γ → DC (X.blk s H scope (compEnvC scope cl C X.env) fp) Γ' ifs ct)
    (he : ∀ (s : Shared) (H : Hp) (C : Addr) (cl : List (Str × Addr)) (fp : List Addr) (Γ' : Fr), Inn Γ' Γ → DE (X.blk s H scope (compEnvC scope cl C X.env) fp) Γ' elt el)
    (hsw : swapsWith (.ListComp elt [⟨tg, iter, ifs, 0⟩] scope pos) (some (.Name y py)) spos.line X.env = pure true := by rfl)
    (hs : ∀ x, foldedSetIterable iter X.env x = pure x := by intro _; rfl) : DS X Γ (.Assign [.Name y py] (.ListComp elt [⟨tg, iter, ifs, 0⟩] scope pos) spos) (sOwn i (eLc vs mi as ct el)) := by
  subst hv
  refine ⟨(ps_setLc hc hN hy hyl hsw hi.pi ok (fun s H C cl fp => pg_all (hg s H C cl fp)) (fun s H C cl fp => pt_all (ht s H C cl fp)) (fun s H C cl fp => pe_all (he s H C cl fp)) hs).imp fun E σ H ⟨w, ι, F, S, h⟩ => ?_⟩
  refine lc_go hk ⟨w, ι, F, S, (RR.bnd h).mono fun d w1 h1 => ?_⟩
  intro ι1 F1 H1 p S1 l1 o1
  have h2 := RR.bnd (show RR Γ ((setO i d w1).andThen _) _ from h1)
  unfold setO at h2
  split at h2
  · exact (show PoF Γ ι F E .nx _ from h2) ι1 F1 _ H1 (S1.setO (by assumption) o1) l1
  · exact h2.elim
theorem ds_setLc {i : Nat} {spos : Pos} {y : Str} {py : Pos} (hc : X.calm = true) (hN : X.N.Nodup) (hy : X.N[i]? = some y) (hyl : X.env.scope.names.lookup y = some .local) (hi : DI X Γ tg iter mi) (ok : BlkOk X.N X.env.scope scope own) (hv : own.map (·.2) = vs) (hk : ∀ k ∈ ks, k ∈ vs)
    (hg : ∀ (s : Shared) (H : Hp) (C : Addr) (cl : List (Str × Addr)) (fp : List Addr) (Γ' : Fr), Inn Γ' Γ → DKt (X.blk s H scope (compEnvC scope cl C X.env) fp) Γ' tg ks as)
    (ht : ∀ (s : Shared) (H : Hp) (C : Addr) (cl : List (Str × Addr)) (fp : List Addr) (Γ' : Fr), Inn Γ' Γ → DC (X.blk s H scope (compEnvC scope cl C X.env) fp) Γ' ifs ct)
    (he : ∀ (s : Shared) (H : Hp) (C : Addr) (cl : List (Str × Addr)) (fp : List Addr) (Γ' : Fr), Inn Γ' Γ → DE (X.blk s H scope (compEnvC scope cl C X.env) fp) Γ' elt el)
    (hsw : swapsWith (.ListComp elt [⟨tg, iter, ifs, 0⟩] scope pos) (some (.Name y py)) spos.line X.env = pure true := by rfl)
    (hs : ∀ x, foldedSetIterable iter X.env x = pure x := by intro _; rfl) : DS X Γ (.Assign [.Name y py] (.ListComp elt [⟨tg, iter, ifs, 0⟩] scope pos) spos) (sSet i (eLc vs mi as ct el)) := by
  subst hv
  refine ⟨(ps_setLc hc hN hy hyl hsw hi.pi ok (fun s H C cl fp => pg_all (hg s H C cl fp)) (fun s H C cl fp => pt_all (ht s H C cl fp)) (fun s H C cl fp => pe_all (he s H C cl fp)) hs).imp fun E σ H ⟨w, ι, F, S, h⟩ => ?_⟩
  refine lc_go hk ⟨w, ι, F, S, (RR.bnd h).mono fun d w1 h1 => ?_⟩
  intro ι1 F1 H1 p S1 l1 o1
  have h2 := RR.bnd (show RR Γ ((setF i d w1).andThen _) _ from h1)
  unfold setF at h2
  split at h2
  · obtain ⟨F2, S2, l2, r2⟩ := S1.adopt o1
    exact (show PoF Γ ι F E .nx _ from h2) ι1 F2 _ H1 (S2.setF (by assumption) r2) (l1.trans l2)
  · exact h2.elim
end
end
end Dl


set_option Elab.async false
set_option linter.all false
set_option maxRecDepth 100000
set_option maxHeartbeats 4000000
namespace Dl
open PySem PySem.Spec PyProof.Rows L2

/-! ### errors -/
/-- an exception of class cls with its dict d is the error x -/
def Er (g : Gm) (x : Err) (cls : Value) (d : Option Addr) (H : Hp) : Prop := cls = .ref (g.cl x.cls) ∧ match x.arg with
  | none => True
  | some v => ∃ a fs u, d = some a ∧ H a = some (.xd fs) ∧ fs.lookup (g.fld x.cls) = some u ∧ Rp g [] (fun _ => none) v u
/-- what a frame wishes of an exception -/
def WW (Γ : Fr) : WX := fun cls d σ H => ∃ x w ι F, SR Γ w ι F σ H ∧ Er Γ.toGm x cls d H ∧ Γ.ex x w
/-- the context of a body and its frame go together -/
structure Ok (X : Cx) (Γ : Fr) : Prop where
  w : X.w = Γ.w
  K : X.K = Γ.K
  tk : Takes X (WW Γ)
theorem ok_blk {X : Cx} {Γ Γ' : Fr} {s : Shared} {H : Hp} {sc : Scope} {e : Env} {fp : List Addr} (h : Ok X Γ) (hg : Inn Γ' Γ) : Ok (X.blk s H sc e fp) Γ' :=
  ⟨by rw [show Γ'.w = Γ'.toGm.w from rfl, hg.1]; exact h.w, by rw [show Γ'.K = Γ'.toGm.K from rfl, hg.1]; exact h.K, takes0.imp fun cls d σ H ⟨x, w, ι, F, S, e, q⟩ => hg.2 x w q⟩

/-! ### into a callee and back -/
/-- a callee's frame: it enters with the heap H -/
def Fr.callee (Γ : Fr) (ι : List Addr) (F H : Hp) (ex : Err → W → Prop) : Fr := { toGm := Γ.toGm, F0 := F, H0 := H, ι0 := ι, lk := [], ul := Γ.ul, hid := [], ex := ex }
section
variable {Γ : Fr} {w : W} {ι : List Addr} {F : Hp} {σ : L2.St} {H : Hp}
theorem SR.enter (S : SR Γ w ι F σ H) (ex : Err → W → Prop) : SR (Γ.callee ι F H ex) ⟨[], w.st⟩ ι F [] H where
  sub := S.sub
  ent := fun a o h => h
  new := fun a o h => .inl h
  kp := fun a o h _ _ => .inl h
  kt := fun a ps h => ⟨ps, h⟩
  tab := S.tab
  ntab := S.ntab
  io := fun n a h => h
  inw := fun a h => .inl h
  ind := S.ind
  slen := rfl
  slot := fun i d h => by simp at h
  own := fun i d h => by simp at h
  own2 := fun i j d e a hij h => by simp at h
  hid := fun p hp => by simp [Fr.callee] at hp
  stl := S.stl
  sto := S.sto
theorem SR.leave {ex : Err → W → Prop} {w' : W} {ι' : List Addr} {F' : Hp} {σ' : L2.St} {H' : Hp} (S : SR Γ w ι F σ H) (S' : SR (Γ.callee ι F H ex) w' ι' F' σ' H') : SR Γ { w with st := w'.st } ι' F' σ H' ∧ Le ι F ι' F' := by
  have kH : ∀ a o, H a = some o → a ∉ ι → (∀ ps, o ≠ .tbl ps) → H' a = some o := fun a o h1 h2 h3 => (S'.kp a o h1 h2 h3).elim id fun z => absurd z.1 (by simp [Fr.callee])
  have fo : ∀ a o, F a = some o → F' a = some o := S'.ent
  have io : ∀ (n : Nat) a, ι[n]? = some a → ι'[n]? = some a := S'.io
  have nF : ∀ a o, F' a = some o → F a = some o ∨ H a = none := S'.new
  have nI : ∀ a ∈ ι', a ∈ ι ∨ H a = none := S'.inw
  have l : Le ι F ι' F' := ⟨io, fo⟩
  have kF : ∀ a, F a = none → (∃ o, H a = some o) → F' a = none := fun a h1 ⟨o, h2⟩ => by
    cases q : F' a with
    | none => rfl
    | some u =>
      rcases nF a u q with z | z
      · rw [h1] at z; cases z
      · rw [h2] at z; cases z
  have kI : ∀ a, a ∉ ι → (∃ o, H a = some o) → a ∉ ι' := fun a h1 ⟨o, h2⟩ z => by
    rcases nI a z with z | z
    · exact h1 z
    · rw [h2] at z; cases z
  refine ⟨⟨S'.sub, fun a o h => fo a o (S.ent a o h), fun a o h => ?_, fun a o h1 h2 h3 => ?_, fun a ps h => ?_, S'.tab, S'.ntab, fun n a h => io n a (S.io n a h), fun a h => ?_, S'.ind, S.slen, fun i d h => ?_, fun i d h => ?_, S.own2, fun p hp => ?_, S'.stl, S'.sto⟩, l⟩
  · rcases nF a o h with z | z
    · exact S.new a o z
    · exact .inr (S.free0 z)
  · have hni : a ∉ ι := fun z => by
      rcases S.inw a z with q | q
      · exact h2 q
      · rw [h1] at q; cases q
    rcases S.kp a o h1 h2 h3 with q | ⟨q, ob, r⟩
    · exact .inl (kH a o q hni h3)
    · exact .inr ⟨q, ob, kH a _ r hni fun ps z => by cases z⟩
  · obtain ⟨ps', q⟩ := S.kt a ps h
    exact S'.kt a ps' q
  · rcases nI a h with z | z
    · exact S.inw a z
    · exact .inr (S.free0 z)
  · obtain ⟨v, e, r⟩ := S.slot i d h
    exact ⟨v, e, Rp.mono l _ _ r⟩
  · obtain ⟨a, e, f, f0, fi, r⟩ := S.own i d h
    obtain ⟨u, hu, ht⟩ := r.some
    refine ⟨a, e, kF a f ⟨u, hu⟩, f0, kI a fi ⟨u, hu⟩, ?_⟩
    cases d with
    | lst ds => obtain ⟨vs, q1, q2⟩ := r; exact ⟨vs, kH a _ q1 fi (fun ps z => by cases z), RpL.mono l _ _ q2⟩
    | dct t ks =>
      obtain ⟨o, vs, q1, q2, q3⟩ := r
      rw [hu] at q1
      cases q1
      exact ⟨u, vs, kH a _ hu fi ht, q2, RpK.mono l _ _ q3⟩
    | _ => exact r.elim
  · obtain ⟨q1, q2, q3, q4, q5⟩ := S.hid p hp
    exact ⟨kH _ _ q1 q3 q5, kF _ q2 ⟨_, q1⟩, kI _ q3 ⟨_, q1⟩, q4, q5⟩
end

theorem SR.reex {Γ : Fr} {w : W} {ι ι0 : List Addr} {F F0 : Hp} {σ : L2.St} {H H0 : Hp} {e : Err → W → Prop} (e' : Err → W → Prop) (S : SR (Γ.callee ι0 F0 H0 e) w ι F σ H) : SR (Γ.callee ι0 F0 H0 e') w ι F σ H := { S with }
/-! ### a def as a function of its arguments and of the store -/
def args (n : Nat) (ds : List D) : List (Option (Bool × D)) := ds.map (fun d => some (false, d)) ++ List.replicate (n - ds.length) none
/-- n: the number of slots -/
def fnD (n : Nat) (b : M Fl) (ds : List D) : M D := fun w => match b ⟨args n ds, w.st⟩ with
  | .ok (.rt d) w' => .ok d { w with st := w'.st }
  | .ok .nx w' => .ok .non { w with st := w'.st }
  | .exc x w' => .exc x { w with st := w'.st }
  | _ => .bad
def PoR (Γb : Fr) (Q : VK) (f : Fl) (w' : W) : Prop := match f with
  | .nx => ∀ ι' F' σ' H', SR Γb w' ι' F' σ' H' → Q .non H'
  | .rt d => ∀ ι' F' σ' H' v, SR Γb w' ι' F' σ' H' → Rp Γb.toGm ι' F' d v → Q v H'
  | _ => False
/-- the promise of a def with np parameters, n slots and the body b -/
def spD (g : Gm) (np n : Nat) (b : M Fl) : Sp := fun vs H Q E => vs.length = np ∧ ∃ (Γ : Fr) (ds : List D) (w0 : W) (ι : List Addr) (F : Hp) (σ : L2.St), Γ.toGm = g ∧ SR Γ w0 ι F σ H ∧ RpL g ι F ds vs ∧
  RR (Γ.callee ι F H fun x w' => ∀ ι' F' σ' H' cls d, SR (Γ.callee ι F H fun _ _ => False) w' ι' F' σ' H' → Er g x cls d H' → E cls d H') (b ⟨args n ds, w0.st⟩) (PoR (Γ.callee ι F H fun _ _ => False) Q)
theorem args_get (n : Nat) (ds : List D) {i : Nat} {k : Bool} {d : D} (h : (args n ds)[i]? = some (some (k, d))) : k = false ∧ ds[i]? = some d := by
  unfold args at h
  by_cases hi : i < ds.length
  · rw [List.getElem?_append_left (by simpa using hi), List.getElem?_map, List.getElem?_eq_getElem hi] at h
    simp at h
    exact ⟨h.1, by rw [List.getElem?_eq_getElem hi, h.2]⟩
  · rw [List.getElem?_append_right (by simpa using Nat.le_of_not_lt hi), List.getElem?_replicate] at h
    split at h <;> cases h
theorem SR.args {Γ : Fr} {w : W} {ι : List Addr} {F : Hp} {H : Hp} {N : List Str} {ds : List D} {vs : List V} (S : SR Γ w ι F [] H) (r : RpL Γ.toGm ι F ds vs) : SR Γ ⟨Dl.args N.length ds, w.st⟩ ι F (L2.start N vs) H := by
  refine (S.slots (sl' := Dl.args N.length ds) (σ' := L2.start N vs) ?_ (fun i d h => ?_) fun i d h => ?_ : SR Γ { w with sl := Dl.args N.length ds } ι F (L2.start N vs) H)
  · have hl := r.length
    show (ds.map (fun d => some (false, d)) ++ List.replicate (N.length - ds.length) none).length = (vs.map some ++ List.replicate (N.length - vs.length) none).length
    simp [hl]
  · obtain ⟨_, h1⟩ := args_get _ _ h
    obtain ⟨v, q1, q2⟩ := r.get h1
    refine ⟨v, ?_, q2⟩
    unfold L2.start
    rw [List.getElem?_append_left (by simpa using (List.getElem?_eq_some_iff.mp q1).1), List.getElem?_map, q1]
    rfl
  · obtain ⟨h1, _⟩ := args_get _ _ h
    cases h1
section
variable {P : Program} {w : World} {K : PySem.W.Frag} {mg : Str → Option Value} {base : Heap}
/-- THE RULE for a def -/
theorem fn_ok {x qual : Str} {st : Stmt} {f : Addr} {fd : FuncData} {N ps : List Str} {k : Nat} {g : Gm} {b : M Fl} {np n : Nat} (F : Fun K x qual st f fd) (S : FnScope N ps (defScope st)) (hn : n = N.length) (hnp : np = ps.length) (hw : w = g.w) (hK : K = g.K)
    (hb : ∀ (cdv : Value) (A : Around) (outer : List Env) (s : Shared) (H : Hp) (E : XK) (Γ : Fr), Room k (A.deeper (envOfC qual (defScope st) s.heap.objs.size f cdv)) → Γ.toGm = g → Ok (cxOf (L2.CX P w) P w K mg base N qual (defScope st) f cdv A outer s H E) Γ →
      DB (cxOf (L2.CX P w) P w K mg base N qual (defScope st) f cdv A outer s H E) Γ (defBody st) b) : FnOk P w K mg base (L2.CX P w) (k + 1) f fd ps (spD g np n b) := by
  subst hn hnp
  refine F.okX S (fun vs H Q E h => h.1) fun cdv A outer s H vs Q E hr h => ?_
  obtain ⟨hl, Γ, ds, w0, ι, F0, σ, hg, S0, r, h⟩ := h
  subst hg
  refine ⟨_, (hb cdv A outer s H E (Γ.callee ι F0 H fun x w' => ∀ ι' F' σ' H' cls d, SR (Γ.callee ι F0 H fun _ _ => False) w' ι' F' σ' H' → Er Γ.toGm x cls d H' → E cls d H') hr rfl ⟨hw, hK, (takes_of rfl rfl rfl rfl).imp fun cls d σ H ⟨x, w, ι', F', S', e, q⟩ => q ι' F' σ H cls d (S'.reex _) e⟩).ps, ?_⟩
  refine ⟨⟨args N.length ds, w0.st⟩, ι, F0, (S0.enter _).args r, h.mono fun fl w' q => ?_⟩
  cases fl with
  | nx => exact fun ι' F' σ' H' S' _ => q ι' F' σ' H' (S'.reex _)
  | rt d => exact fun ι' F' σ' H' v S' _ r' => q ι' F' σ' H' v (S'.reex _) r'
  | bk => exact q.elim
  | ct => exact q.elim
end
section
variable {X : Cx} {Γ : Fr}
theorem call_of {np n : Nat} {b : M Fl} {ml : M (List D)} {σ : L2.St} {H : Hp} {Q : VK} {t : TA} (ht : ∀ H R, tL Γ ml σ H R → t σ H R) (hlen : ∀ w ds w', ml w = .ok ds w' → ds.length = np) (h : tD Γ (ml.bnd (fnD n b)) σ H Q) : tCallS (spD Γ.toGm np n b) (WE (WW Γ)) t σ H Q := by
  obtain ⟨w, ι, F, S, h⟩ := h
  refine ht H _ ⟨w, ι, F, S, ?_⟩
  have h' : RR Γ ((ml w).andThen (fnD n b)) (Po Γ ι F σ Q) := h
  cases q : ml w with
  | bad => rw [q] at h'; exact h'.elim
  | exc x w1 => rw [q] at h'; exact h'
  | ok ds w1 =>
    rw [q] at h'
    have hl := hlen _ _ _ q
    intro ι1 F1 H1 vs S1 l1 r1
    refine ⟨by rw [r1.length]; exact hl, Γ, ds, w1, ι1, F1, σ, rfl, S1, r1, ?_⟩
    have h2 : RR Γ (fnD n b ds w1) (Po Γ ι F σ Q) := h'
    unfold fnD at h2
    cases e : b ⟨args n ds, w1.st⟩ with
    | bad => rw [e] at h2; exact h2.elim
    | exc x w' =>
      rw [e] at h2
      intro ι' F' σ' H' cls d S' er
      exact ⟨x, _, ι', F', (S1.leave S').1, er, h2⟩
    | ok fl w' =>
      rw [e] at h2
      cases fl with
      | nx =>
        intro ι' F' σ' H' S'
        obtain ⟨S2, l2⟩ := S1.leave S'
        exact (show Po Γ ι F σ Q .non _ from h2) ι' F' H' .non S2 (l1.trans l2) rfl
      | rt d =>
        intro ι' F' σ' H' v S' r'
        obtain ⟨S2, l2⟩ := S1.leave S'
        exact (show Po Γ ι F σ Q d _ from h2) ι' F' H' v S2 (l1.trans l2) r'
      | bk => exact h2.elim
      | ct => exact h2.elim
/-- how many values an argument list gives -/
def Len (ml : M (List D)) (n : Nat) : Prop := ∀ w ds w', ml w = .ok ds w' → ds.length = n
theorem len_nil : Len lN 0 := fun w ds w' h => by cases h; rfl
theorem len_cons {m : M D} {ml : M (List D)} {n : Nat} (h : Len ml n) : Len (lC m ml) (n + 1) := fun w ds w' q => by
  obtain ⟨d, w1, e1, q⟩ := andThen_inv (show (m w).andThen _ = _ from q)
  obtain ⟨r, w2, e2, q⟩ := andThen_inv (show (ml w1).andThen _ = _ from q)
  cases q
  simp [h _ _ _ e2]
variable {k : Nat} {f : Addr} {fd : FuncData} {ps : List Str} {np n : Nat} {b : M Fl} {x : Str} {p pos : Pos} {e : Expr} {es : List Expr} {ml : M (List D)}
/-- f(..) -/
theorem de_call (F : FnOk X.prog X.w X.K X.mg X.base (L2.CX X.prog X.w) k f fd ps (spD Γ.toGm np n b)) (o : Ok X Γ) (hr : Room k X.A) (hm : X.mg x = some (.ref f)) (hk : PySem.W.keepIn X.K (.ref f) = true) (hb : Binds X.K fd ps []) (hl : Len ml np) (hg : Gl X x)
    (ha : DA X Γ (e :: es) ml) (hdb : (x == ("__debug__" : Str)) = false := by decide) (he : starEach (e :: es) X.env = (false, eval e X.env) :: starEach es X.env := by rfl) (hpl : (backTo pos (starEach es X.env)).any (·.1) = false := by rfl) :
    DE X Γ (.Call (.Name x p) (e :: es) [] pos) (ml.bnd (fnD n b)) :=
  ⟨(pe_callS F hr hg hm hk hb (fun σ => passAt o.tk σ) ha.pa hdb he hpl).imp fun σ H Q h => call_of (fun _ _ q => q) hl h⟩
end
end Dl


set_option Elab.async false
set_option linter.all false
set_option maxRecDepth 100000
set_option maxHeartbeats 4000000
namespace Dl
open PySem PySem.Spec PyProof.Rows L2

/-- the names of a generator expression -/
structure GenOk (N : List Str) (sc scope : Scope) (own : List (Str × Nat)) : Prop where
  kind : scope.kind = .function
  co : scope.isCoroutine = false
  nocell : ∀ y ∈ scope.names, y.2 ≠ .cell
  dot : scope.names.lookup (".0" : Str) = some NameKind.local
  uniq : ∀ y ∈ scope.names, scope.names.lookup y.1 = some y.2
  ix : ∀ p ∈ own, N[p.2]? = some p.1
  free : ∀ y ∈ scope.names, y.2 = .free → sc.names.lookup y.1 = some .cell ∨ sc.names.lookup y.1 = some .free
  own : ∀ y ∈ scope.names, y.2 = .local → y.1 ∈ own.map (·.1) ∨ y.1 ∉ N
/-- the context of its frame -/
abbrev genX (X : Cx) (s : Shared) (H : Hp) (cenv : Env) (fp : List Addr) (A : Around) (pn : List (Addr × Obj)) : Cx := { X with A := A, s_0 := s, H_0 := H, env := cenv, outer := X.stack, stack := cenv :: X.stack, ex := fp, fn := fun _ => false, pn := pn, xe := fun _ _ => False }
section
variable {X : Cx} {pins : List (Addr × Obj)} {σ : L2.St} {H : Hp} {s : Shared}
theorem gen_start {scope : Scope} {own : List (Str × Nat)} {fp : List Addr} {code : Value} {bi a : Addr} {go : Obj} {A : Around} {h' : Heap} {g' : Array GenState} {t' : Nat} {m : Str → Option Value} (I : Inv X pins σ H s) (ok : GenOk X.N X.env.scope scope own) (hN : X.N.Nodup)
    (hfp : ∀ b ∈ fp, FpOk X pins H b ∧ b < s.heap.objs.size) (hbi : bi = builtinsNs) (hn : h'.Ns s.heap.objs.size m) (kp : ∀ b o, s.heap.get? b = some o → h'.get? b = some o) (hgo : h'.get? a = some go) (ha : s.heap.objs.size < a) (hd : ∀ v, go.data ≠ .cell v)
    (hg : AllBare g') (hfr : A.frames = some (genEnv scope (cloFrom X.env.cells scope.names []) s.heap.objs.size code bi X.env :: X.stack)) (hh : A.handled = none) :
    Inv (genX X s H (genEnv scope (cloFrom X.env.cells scope.names []) s.heap.objs.size code bi X.env) fp A [(a, go)]) [] (L2.wipe σ (own.map (·.2))) H { s with gens := g', heap := h', toks := t' } := by
  have hfree : ∀ y ∈ scope.names, y.2 = .free → ∃ c, X.env.cells.lookup y.1 = some c := fun y hy e => by
    rcases ok.free y hy e with k | k
    · exact I.ok.has _ (.inl k)
    · exact I.ok.has _ (.inr k)
  generalize hcenv : genEnv scope (cloFrom X.env.cells scope.names []) s.heap.objs.size code bi X.env = cenv at hfr ⊢
  have hL : cenv.locals = s.heap.objs.size := by rw [← hcenv]; rfl
  have hF : cenv.frame = some s.heap.objs.size := by rw [← hcenv]; rfl
  have hcl : cenv.cells = cloFrom X.env.cells scope.names [] := by rw [← hcenv]; rfl
  have hsc : cenv.scope = scope := by rw [← hcenv]; rfl
  have cm : ∀ {y c}, (y, c) ∈ cloFrom X.env.cells scope.names [] → X.env.cells.lookup y = some c ∧ c < s.heap.objs.size := fun {y c} hm => by
    rcases cloFrom_mem hm with hm | ⟨h1, rfl⟩
    · cases hm
    · obtain ⟨c, hc⟩ := hfree _ h1 rfl
      rw [hc]
      obtain ⟨w, z⟩ := I.cell _ _ hc
      exact ⟨rfl, z.lt⟩
  have mem : ∀ {y c}, cenv.cells.lookup y = some c → X.env.cells.lookup y = some c ∧ c < s.heap.objs.size := fun {y c} e => by
    rw [hcl] at e
    exact cm (PySem.mem_of_lookup e)
  have look : ∀ {y}, scope.names.lookup y = some .free → ∃ c, cenv.cells.lookup y = some c ∧ X.env.cells.lookup y = some c := fun {y} hl => by
    have hy : (y, NameKind.free) ∈ scope.names := PySem.mem_of_lookup hl
    obtain ⟨c', e'⟩ := mem_lookup (cloFrom_has (cells := X.env.cells) (acc := []) hy)
    rw [← hcl] at e'
    exact ⟨c', e', (mem e').1⟩
  have nocell : ∀ y, scope.names.lookup y ≠ some .cell := fun y e => ok.nocell _ (PySem.mem_of_lookup e) rfl
  have hloc : H s.heap.objs.size = none := I.hok.fresh (Nat.le_refl _)
  have okB : (genX X s H cenv fp A [(a, go)]).Ok := by
    refine ⟨I.ok.mod, by show cenv.scope.kind = _; rw [hsc]; exact ok.kind, by show cenv.globals = _; rw [← hcenv]; exact I.ok.glob, by show cenv.builtins = _; rw [← hcenv]; exact hbi, by show s.heap.objs.size ≤ cenv.locals; rw [hL]; exact Nat.le_refl _,
      fun y z c e1 e2 => I.ok.inj y z c (mem e1).1 (mem e2).1, fun y hy => ?_, fun y c z e => absurd (show false = true from z) Bool.false_ne_true, fun _ => hh, hfr, .inr ⟨rfl, by show cenv.frame = some cenv.locals; rw [hF, hL]⟩, fun b hb => ⟨?_, fun y c e z => ?_⟩, I.bs, Nat.le_trans I.ok.bsz I.sz, fun b o e hb => ?_, fun b hb z => ?_, I.stack, I.stkFree⟩
    · show ∃ c, cenv.cells.lookup y = some c
      have hy : cenv.scope.names.lookup y = some .cell ∨ cenv.scope.names.lookup y = some .free := hy
      rw [hsc] at hy
      rcases hy with hy | hy
      · exact absurd hy (nocell y)
      · obtain ⟨c, h1, _⟩ := look hy
        exact ⟨c, h1⟩
    · show b ≠ cenv.locals
      rw [hL]; exact Nat.ne_of_lt (hfp b hb).2
    · have e : cenv.cells.lookup y = some c := e
      exact (hfp b hb).1.2.2.2.2.1 y c (mem e).1 z
    · rcases (hfp b hb).1.2.2.2.1 with z | z
      · exact I.ok.noex b o e z
      · exact absurd (Nat.lt_of_lt_of_le (Heap.lt_size e) (Nat.le_trans I.ok.bsz z)) (Nat.lt_irrefl _)
    · rcases List.mem_cons.mp (I.stkSub b z) with z | z
      · exact (hfp b hb).1.2.1 z
      · exact (hfp b hb).1.2.2.1 z
  refine ⟨okB, rfl, hg, Un.kept kp, ⟨m, ?_, fun i y av e1 e2 e3 => ?_⟩, fun y c e => ?_, ?_, fun y c e => ?_, fun p hp => ?_, I.hok.kept kp, by rw [wipe_length]; exact I.len⟩
  · show h'.Ns cenv.locals m
    rw [hL]; exact hn
  · obtain ⟨e2, hne⟩ := wipe_some e2
    have e3 : Vis cenv.scope y := e3
    rw [hsc] at e3
    have hfr : scope.names.lookup y = some .free := by
      rcases e3 with e3 | e3 | e3
      · exfalso
        rcases ok.own _ (PySem.mem_of_lookup e3) rfl with e' | e'
        · obtain ⟨p, hp, hpy⟩ := List.mem_map.mp e'
          have e4 := ok.ix p hp
          have : p.1 = y := hpy
          rw [this] at e4
          exact hne (List.mem_map.mpr ⟨p, hp, nodup_ix hN e4 e1⟩)
        · exact e' (List.mem_of_getElem? e1)
      · exact absurd e3 (nocell y)
      · exact e3
    obtain ⟨m0, hn0, hl⟩ := I.loc
    have hvis : Vis X.env.scope y := (ok.free _ (PySem.mem_of_lookup hfr) rfl).elim (fun k => .inr (.inl k)) (fun k => .inr (.inr k))
    obtain ⟨w, r, q⟩ := hl i y av e1 e2 hvis
    refine ⟨w, r, .inr ⟨.inr (by show cenv.scope.names.lookup y = _; rw [hsc]; exact hfr), ?_⟩⟩
    obtain ⟨c, h1, h2⟩ := look hfr
    rcases q with ⟨k, _⟩ | ⟨_, c', e', z⟩
    · have k : X.env.scope.names.lookup y = some .local := k
      rcases ok.free _ (PySem.mem_of_lookup hfr) rfl with k' | k' <;> rw [show X.env.scope.names.lookup y = _ from k'] at k <;> cases k
    · rw [h2] at e'; cases e'
      exact ⟨c, h1, z.keeps kp⟩
  · have e : cenv.cells.lookup y = some c := e
    obtain ⟨w, z⟩ := I.cell y c (mem e).1
    exact ⟨w, z.keeps kp⟩
  · show H cenv.locals = none
    rw [hL]; exact hloc
  · have e : cenv.cells.lookup y = some c := e
    exact I.freeC y c (mem e).1
  · have hp : p ∈ [(a, go)] ++ ([] : List (Addr × Obj)) := hp
    rw [List.append_nil, List.mem_singleton] at hp
    rw [hp]
    refine ⟨hgo, I.hok.fresh (Nat.le_of_lt ha), ?_, fun hb => ?_, hd⟩
    · show a ≠ cenv.locals
      rw [hL]; exact Nat.ne_of_gt ha
    · have hb : a ∈ frs X.stack := hb
      rcases List.mem_cons.mp (I.stkSub a hb) with z | z
      · have := I.lt
        rw [← z] at this
        exact absurd (Nat.lt_trans this ha) (Nat.lt_irrefl _)
      · exact I.nofs (Nat.le_of_lt ha) z
/-- the generators, the counters may be others -/
theorem _root_.L2.Inv.gens' {g' : Array GenState} {t' : Nat} {d' : Drawn} (I : Inv X pins σ H s) (hg : AllBare g') : Inv X pins σ H { s with gens := g', drawn := d', toks := t' } := ⟨I.ok, I.os, hg, I.base, I.loc, I.cell, I.free, I.freeC, I.pin, I.hok, I.len⟩
theorem _root_.L2.Inv.same {s' : Shared} (I : Inv X pins σ H s) (h1 : s'.heap = s.heap) (h2 : s'.os = s.os) (h3 : AllBare s'.gens) : Inv X pins σ H s' := by
  obtain ⟨hp, g, d, t, o⟩ := s'
  have h1 : hp = s.heap := h1
  have h2 : o = s.os := h2
  subst h1 h2
  exact ⟨I.ok, I.os, h3, I.base, I.loc, I.cell, I.free, I.freeC, I.pin, I.hok, I.len⟩
end

/-! ### the generator runs -/
def GEnd' (Xg : Cx) (σ0 : L2.St) (QT : Hp → Prop) : Nat → Shared → Shared → Prop := fun _ _ s₁ => ∃ H, Inv Xg [] σ0 H s₁ ∧ QT H
def GYld (Xg : Cx) (e : Bool) (QF : Hp → Prop) : Protocol := fun _ _ v s kap => ∃ b, v = Value.bool b ∧ ∃ σ H, Inv Xg [] σ H s ∧ (b = e → ∀ s', s'.heap = s.heap → s'.os = s.os → AllBare s'.gens → kap (.send .none) s') ∧ (b ≠ e → QF H)
section
variable {Xg : Cx} {A2 : Around} {elt tg iter : Expr} {ifs : List Expr} {scope : Scope} {pos : Pos} {J : It} {fp : List Addr} {it : Addr} {tn : Nat → Heap → Prop} {g : TG} {tt : TT} {te : TE} {vs : List Nat} {σ0 : L2.St} {e : Bool} {QT QF : Hp → Prop}
theorem seg_run (T : Turn Xg.prog Xg.w Xg.K tg J fp it tn) (hA : A2.over (.compLoop (.GeneratorExp elt [⟨tg, iter, ifs, 0⟩] scope pos) 0 (.ref it) .none Xg.env) [] = Xg.A) (hc : Xg.calm = true) (hxe : Xg.xe = fun _ _ => False) (hco : Xg.env.scope.isCoroutine = false)
    (pg : PG Xg tg g) (pt : PTs Xg ifs tt) (pe : PE Xg elt te) (stat : ∀ {H' : Hp}, (∀ b ∈ fp, H' b = none) → ∀ b ∈ fp, FpOk Xg [] H' b) (hw0 : L2.wipe σ0 vs = σ0)
    {W : Nat → Nat → Hp → Prop} (turn : ∀ i m H, W i m H → (J.stop i H ∧ QT H) ∨ (J.go i H ∧ ∃ Nx : Hp → Prop, (∀ H', Nx H' → ∃ m', m' < m ∧ W (i + 1) m' H') ∧ ∀ x H', J.yld i H x H' → g x σ0 H' fun σ2 H2 => L2.wipe σ2 vs = σ0 ∧ tt σ2 H2 fun b H3 =>
      if b = true then te σ2 H3 fun y H4 => ∃ b', y = .bl b' ∧ (b' = e → Nx H4) ∧ (b' ≠ e → QF H4) else Nx H3)) :
    ∀ (m i n : Nat) (s₀ s : Shared) (H : Hp), W i m H → Inv Xg [] σ0 H s → tn i s.heap → (∀ b ∈ fp, H b = none) → m < n →
      Seg (model Xg.prog Xg.w) A2 (fun n s₀ r s₁ => r = .ok .next ∧ GEnd' Xg σ0 QT n s₀ s₁) (GYld Xg e QF) n s₀ (.compLoop (.GeneratorExp elt [⟨tg, iter, ifs, 0⟩] scope pos) 0 (.ref it) .none Xg.env)
        ((model Xg.prog Xg.w).den (.compLoop (.GeneratorExp elt [⟨tg, iter, ifs, 0⟩] scope pos) 0 (.ref it) .none Xg.env)) [] s := by
  intro m
  induction m using Nat.strongRecOn with
  | ind m ih =>
    intro i n s₀ s H w I st fr hmn
    have hF : ∀ {α : Type} {t : Sem α} {Q Q' : α → Shared → Prop} {E : Value → Shared → Prop} {s : Shared}, wpAny (model Xg.prog Xg.w) Xg.A t Q Xg.xe s → (∀ a s, Q a s → Q' a s) → wpAny (model Xg.prog Xg.w) (A2.over (.compLoop (.GeneratorExp elt [⟨tg, iter, ifs, 0⟩] scope pos) 0 (.ref it) .none Xg.env) []) t Q' E s := fun h k => by
      rw [hA]
      exact wpAny_mono h k fun x s' z => by rw [hxe] at z; exact z.elim
    show Seg _ A2 _ _ _ s₀ _ ((compTurn (.GeneratorExp elt [⟨tg, iter, ifs, 0⟩] scope pos) 0 (.ref it) .none Xg.env).onRaise (leaving Xg.env)) [] s
    rw [compTurn_gen, Sem.onRaise_eq_wrap]
    refine seg_bind_wrap (wpAny_standAt ?_)
    rcases turn i m H w with ⟨stop, qt⟩ | ⟨go, Nx, hNx, step⟩
    · refine seg_bind_wrap (hF (T.done Xg rfl rfl rfl hc i [] s σ0 H Xg.xe I (stat fr) st stop) fun r s4 ⟨hr, I4⟩ => ?_)
      subst hr
      exact seg_end (.ok .next) ⟨rfl, H, I4, qt⟩
    · refine seg_bind_wrap (hF (T.item Xg rfl rfl rfl hc i [] s σ0 H Xg.xe I (stat fr) st go) fun r s4 ⟨u, hr, h4⟩ => ?_)
      subst hr
      refine seg_bind_wrap (hF h4 fun _ s5 ⟨x, H5, I5, r5, y5, st5, fr5⟩ => ?_)
      have I5' := I5.pinned (stat fr5) (T.obj _ _ st5)
      refine seg_bind_wrap (hF (pg.run _ s5 σ0 H5 x u _ I5' r5 (step x H5 y5)) fun _ s6 ⟨σ6, H6, I6, hw6, q6⟩ => ?_)
      refine seg_bind_wrap (hF (pt.run _ s6 σ6 H6 _ I6 q6) fun b s7 ⟨H7, I7, q7⟩ => ?_)
      -- the turn's end
      have back : ∀ {s' s'' : Shared} {H' : Hp} {n' : Nat} {t₀ : Shared}, Inv Xg ([] ++ pinsAt fp s5.heap) σ6 H' s' → s''.heap = s'.heap → s''.os = s'.os → AllBare s''.gens → Nx H' → m ≤ n' →
          Seg (model Xg.prog Xg.w) A2 (fun n s₀ r s₁ => r = .ok .next ∧ GEnd' Xg σ0 QT n s₀ s₁) (GYld Xg e QF) n' t₀ (.compLoop (.GeneratorExp elt [⟨tg, iter, ifs, 0⟩] scope pos) 0 (.ref it) .none Xg.env)
            ((model Xg.prog Xg.w).den (.compLoop (.GeneratorExp elt [⟨tg, iter, ifs, 0⟩] scope pos) 0 (.ref it) .none Xg.env)) [] s'' := fun {s' s'' H' n' t₀} I' h1 h2 h3 nx hn' => by
        obtain ⟨m', hm, w'⟩ := hNx H' nx
        have pin' : ∀ b ∈ fp, ∀ o, s5.heap.get? b = some o → s'.heap.get? b = some o ∧ H' b = none := fun b hb o eb =>
          let z := I'.pin (b, o) (List.mem_append_right _ (List.mem_append_right _ (mem_pinsAt hb eb)))
          ⟨z.1, z.2.1⟩
        have hl : σ0.length = σ6.length := by rw [← hw6, wipe_length]
        refine ih m' hm (i + 1) n' t₀ s'' H' w' ((((I'.unpinned (pins := [])).weak hl (fun j v ev => ?_)).same h1 h2 h3)) (T.keep _ _ _ st5 fun b hb o eb => by rw [h1]; exact (pin' b hb o eb).1) (fun b hb => ?_) (Nat.lt_of_lt_of_le hm hn')
        · rw [← hw6] at ev
          exact (wipe_some ev).1
        · obtain ⟨o, eb, _⟩ := T.obj _ _ st5 b hb
          exact (pin' b hb o eb).2
      cases b with
      | false =>
        simp only [Bool.false_eq_true, if_false] at q7 ⊢
        exact seg_again rfl (back I7 rfl rfl I7.bare q7 (Nat.le_of_lt hmn))
      | true =>
        simp only [if_true] at q7 ⊢
        obtain ⟨n', rfl⟩ : ∃ n', n = n' + 1 := ⟨n - 1, by omega⟩
        have hy : ∀ v, yieldOut Xg.env v = yieldValue v := fun v => by simp only [yieldOut, hco, Bool.false_eq_true, if_false]
        simp only [hy]
        rw [Sem.bind_eq_wrap', Sem.bind_eq_wrap', Sem.wrap_wrap, Sem.wrap_wrap]
        refine seg_wrap (hF (pe.run _ s7 σ6 H7 _ I7 q7) fun y s8 ⟨yv, H8, I8, r8, b', eb', k1, k2⟩ => ?_)
        subst eb'
        obtain rfl : y = Value.bool b' := r8
        refine seg_at (seg_yield rfl rfl rfl ⟨b', rfl, σ6, H8, I8.unpinned, fun hb s'' h1 h2 h3 => ?_, k2⟩)
        exact seg_again rfl (back I8 h1 h2 h3 (k1 hb) (by omega))
end
end Dl


set_option Elab.async false
set_option linter.all false
set_option maxRecDepth 100000
set_option maxHeartbeats 4000000
namespace Dl
open PySem PySem.Spec PyProof.Rows L2

/-! ### the consumer -/
def GEndX (X : Cx) (pins : List (Addr × Obj)) (σ : L2.St) (QT : Hp → Prop) : Nat → Shared → Shared → Prop := fun _ _ s₁ => ∃ H, Inv X pins σ H s₁ ∧ QT H
def GYldX (X : Cx) (pins : List (Addr × Obj)) (σ : L2.St) (a : Addr) (gN : Nat) (e : Bool) (QF : Hp → Prop) : Protocol := fun _ _ v s kap => ∃ b, v = Value.bool b ∧ ∃ H, Inv X pins σ H s ∧ s.heap.IsGen a gN ∧ (b = e → ∀ s', s'.heap = s.heap → s'.os = s.os → AllBare s'.gens → kap (.send .none) s') ∧ (b ≠ e → QF H)
/-- the generator at a waits -/
def Alive (X : Cx) (A2 : Around) (pins : List (Addr × Obj)) (σ : L2.St) (e : Bool) (QT QF : Hp → Prop) (a : Addr) (gN n : Nat) (s : Shared) : Prop :=
  s.heap.IsGen a gN ∧ s.heap.NoLimit ∧ AllBare s.gens ∧ ∃ gs, s.gens[gN]? = some gs ∧ gs.Goes (model X.prog X.w) A2 (fun n s₀ r s₁ => r = .ok .next ∧ GEndX X pins σ QT n s₀ s₁) (GYldX X pins σ a gN e QF) n (.send .none) (s.setGen gN .running)
section
variable {X : Cx} {pins : List (Addr × Obj)} {σ : L2.St} {e : Bool} {QT QF : Hp → Prop} {a : Addr} {gN : Nat}
theorem setGen_at {s : Shared} {g : Nat} {x : GenState} (h : g < s.gens.size) : (s.setGen g x).gens[g]? = some x := by
  unfold Shared.setGen
  simp [h]
theorem next_gen {A : Around} {n : Nat} {s : Shared} {E : Value → Shared → Prop} (hh : A.handled = none) (hroom : A.depth < recursionLimit) (h : Alive X A.in1 pins σ e QT QF a gN n s) :
    wpAny (model X.prog X.w) A (pyNext (.ref a)) (fun r s' => match r with
      | none => ∃ H, Inv X pins σ H s' ∧ QT H
      | some v => ∃ b, v = Value.bool b ∧ ((b = e ∧ ∃ m, n = m + 1 ∧ Alive X A.in1 pins σ e QT QF a gN m s') ∨ (b ≠ e ∧ ∃ H, Inv X pins σ H s' ∧ QF H))) E s := by
  obtain ⟨hg, hl, hb, gs, hgs, hgo⟩ := h
  have hlt : gN + 1 ≤ s.gens.size := (Array.getElem?_eq_some_iff.mp hgs).1
  refine GenW.wpAny_gsz (n := gN + 1) hlt ?_
  refine wpAny_pyNext_genexpQ hh hl hroom hg hgs hgo (fun v s₁ gs' hbare hv => ?_) (fun s₁ hp h' hk => ?_)
  · intro hsz
    obtain ⟨b, rfl, H, I, hg1, k1, k2⟩ := hv
    have hsz1 : gN < s₁.gens.size := by
      rw [GenW.setGen_size] at hsz
      exact hsz
    have hb1 : AllBare (s₁.setGen gN gs').gens := allBare_setGen I.bare hbare
    refine ⟨b, rfl, ?_⟩
    by_cases hbe : b = e
    · refine .inl ⟨hbe, ?_⟩
      have k := k1 hbe ((s₁.setGen gN gs').setGen gN .running) rfl rfl (allBare_setGen hb1 rfl)
      cases n with
      | zero => exact False.elim k
      | succ m => exact ⟨m, rfl, hg1, I.nolimit, hb1, gs', setGen_at hsz1, k⟩
    · exact .inr ⟨hbe, H, I.same rfl rfl hb1, k2 hbe⟩
  · intro hsz
    obtain ⟨H, I, q⟩ := hp
    exact ⟨H, (I.kept (t' := s₁.toks) hk).same rfl rfl (allBare_setGen I.bare rfl), q⟩
theorem all_loop {A : Around} {R : Result → Shared → Prop} (hh : A.handled = none) (hroom : A.depth < recursionLimit) (hT : ∀ H s', Inv X pins σ H s' → QT H → R (.ok (.ret (.bool true))) s') (hF : ∀ H s', Inv X pins σ H s' → QF H → R (.ok (.ret (.bool false))) s') :
    ∀ (n : Nat) (s : Shared), Alive X A.in1.in1 pins σ true QT QF a gN n s → codeAny (model X.prog X.w) A (.builtin "all.loop" ⟨[.ref a], []⟩) R s := by
  intro n
  induction n using Nat.strongRecOn with
  | ind n ih =>
    intro s h
    refine codeAny_builtin F.entry_all_loop ?_
    rw [Around.under_plainId F.plain_all_loop _]
    show wpAny _ A.in1 (pyNext (.ref a) >>= _) _ _ s
    refine wpAny_bind (wpAny_mono (next_gen (A := A.in1) hh hroom h) (fun r s' q => ?_) fun _ _ z => z)
    cases r with
    | none =>
      obtain ⟨H, I, q⟩ := q
      exact wpAny_bind (wpAny_rule (wpAny_pure (hT H s' I q)))
    | some v =>
      obtain ⟨b, rfl, q⟩ := q
      refine wpAny_bind (wpAny_holding (wpAny_truthy_bool (wpAny_bind (wpAny_letGo ?_))))
      rcases q with ⟨rfl, m, rfl, q⟩ | ⟨hb, H, I, q⟩
      · simp only [if_true]
        exact wpAny_pure ⟨plainId_quiet F.plain_all_loop _, ih m (Nat.lt_succ_self _) s' q⟩
      · have hb : b = false := by cases b <;> simp at hb ⊢
        subst hb
        simp only [Bool.false_eq_true, if_false]
        exact wpAny_bind (wpAny_rule (wpAny_pure (hF H s' I q)))
theorem any_loop {A : Around} {R : Result → Shared → Prop} (hh : A.handled = none) (hroom : A.depth < recursionLimit) (hT : ∀ H s', Inv X pins σ H s' → QT H → R (.ok (.ret (.bool false))) s') (hF : ∀ H s', Inv X pins σ H s' → QF H → R (.ok (.ret (.bool true))) s') :
    ∀ (n : Nat) (s : Shared), Alive X A.in1.in1 pins σ false QT QF a gN n s → codeAny (model X.prog X.w) A (.builtin "any.loop" ⟨[.ref a], []⟩) R s := by
  intro n
  induction n using Nat.strongRecOn with
  | ind n ih =>
    intro s h
    refine codeAny_builtin F.entry_any_loop ?_
    rw [Around.under_plainId F.plain_any_loop _]
    show wpAny _ A.in1 (pyNext (.ref a) >>= _) _ _ s
    refine wpAny_bind (wpAny_mono (next_gen (A := A.in1) hh hroom h) (fun r s' q => ?_) fun _ _ z => z)
    cases r with
    | none =>
      obtain ⟨H, I, q⟩ := q
      exact wpAny_bind (wpAny_rule (wpAny_pure (hT H s' I q)))
    | some v =>
      obtain ⟨b, rfl, q⟩ := q
      refine wpAny_bind (wpAny_holding (wpAny_truthy_bool (wpAny_bind (wpAny_letGo ?_))))
      rcases q with ⟨rfl, m, rfl, q⟩ | ⟨hb, H, I, q⟩
      · simp only [Bool.false_eq_true, if_false]
        exact wpAny_pure ⟨plainId_quiet F.plain_any_loop _, ih m (Nat.lt_succ_self _) s' q⟩
      · have hb : b = true := by cases b <;> simp at hb ⊢
        subst hb
        simp only [if_true]
        exact wpAny_bind (wpAny_rule (wpAny_pure (hF H s' I q)))
theorem call_allG {n : Nat} {s : Shared} {Q : Value → Shared → Prop} {E : Value → Shared → Prop} (hh : X.A.handled = none) (hroom : X.A.depth < recursionLimit) (h : Alive X X.A.in1.in1 pins σ true QT QF a gN n s)
    (hT : ∀ H s', Inv X pins σ H s' → QT H → Q (.bool true) s') (hF : ∀ H s', Inv X pins σ H s' → QF H → Q (.bool false) s') : wpAny (model X.prog X.w) X.A (call (.builtin "all") [.ref a]) Q E s := by
  refine call_function_tree F.kind_all F.plain_all F.entry_all (F.args_all1 _) ?_
  unfold Builtin.«all»
  refine wpAny_bind (m := oneArg "all" _) (wpAny_pure ?_)
  refine wpAny_bind (wpAny_pyIter_gen h.1 ?_)
  exact wpAny_pure ⟨plainId_quiet F.plain_all_loop _, all_loop hh hroom hT hF n s h⟩
theorem call_anyG {n : Nat} {s : Shared} {Q : Value → Shared → Prop} {E : Value → Shared → Prop} (hh : X.A.handled = none) (hroom : X.A.depth < recursionLimit) (h : Alive X X.A.in1.in1 pins σ false QT QF a gN n s)
    (hT : ∀ H s', Inv X pins σ H s' → QT H → Q (.bool false) s') (hF : ∀ H s', Inv X pins σ H s' → QF H → Q (.bool true) s') : wpAny (model X.prog X.w) X.A (call (.builtin "any") [.ref a]) Q E s := by
  refine call_function_tree F.kind_any F.plain_any F.entry_any (F.args_any1 _) ?_
  unfold Builtin.«any»
  refine wpAny_bind (m := oneArg "any" _) (wpAny_pure ?_)
  refine wpAny_bind (wpAny_pyIter_gen h.1 ?_)
  exact wpAny_pure ⟨plainId_quiet F.plain_any_loop _, any_loop hh hroom hT hF n s h⟩
end

/-! ### the generator is made -/
open GxR (TabB Tabbed inv_tab)
theorem over_gen {A : Around} {elt tg iter : Expr} {ifs : List Expr} {scope : Scope} {pos : Pos} {it acc : Value} {env : Env} : A.over (.compLoop (.GeneratorExp elt [⟨tg, iter, ifs, 0⟩] scope pos) 0 it acc env) [] = A.deeper env := by
  first
    | rfl
    | (obtain ⟨hd, d, fr, gs, u⟩ := A; simp [Around.over, Around.deeper, marksOver, frameCount, unitsOf, envsOf, guardsOf, pushEnvs, pushGuards, Code.envs, Code.env?, Code.isFrame, Code.guards, Code.isGuard, Code.weight, Code.frames, Code.isCreation, Code.isCaller, Code.cUnits])
/-- a table may have one more code object -/
def Grown (P : Addr) (ps : Array Value) (H H' : Hp) : Prop := H' = H ∨ ∃ (pos : Pos) (c : Addr) (q : Str), H c = none ∧ H' = upd (upd H P (.tbl (ps ++ #[rawInt pos.line, rawInt pos.col, .ref c]))) c (LamX.CodeO c q)
/-- all / any(elt for tg in iter if ..): e: what lets it go on; QT: the end, QF: it stops -/
def tGen (P : Addr) (wi : TI) (g : TG) (tt : TT) (te : TE) (vs : List Nat) (e : Bool) : TE := fun σ H Q => wi σ H fun J H1 => ∃ ps : Array Value, H1 P = some (.tbl ps) ∧ TriplesOk ps.toList ∧ ∀ H2, Grown P ps H1 H2 → ∃ W : Nat → Nat → Hp → Prop, (∃ m, W 0 m H2) ∧ ∀ i m H, W i m H →
  (J.stop i H ∧ Q (.bl e) H) ∨ (J.go i H ∧ ∃ Nx : Hp → Prop, (∀ H', Nx H' → ∃ m', m' < m ∧ W (i + 1) m' H') ∧ ∀ x H', J.yld i H x H' → g x (L2.wipe σ vs) H' fun σ2 H2 => L2.wipe σ2 vs = L2.wipe σ vs ∧ tt σ2 H2 fun b H3 =>
    if b = true then te σ2 H3 fun y H4 => ∃ b', y = .bl b' ∧ (b' = e → Nx H4) ∧ (b' ≠ e → Q (.bl (!e)) H4) else Nx H3)
/-- the context of the elements of a generator expression -/
abbrev genC (X : Cx) (s : Shared) (H : Hp) (scope : Scope) (cl : List (Str × Addr)) (C : Addr) (code : Value) (bi : Addr) (fp : List Addr) (pn : List (Addr × Obj)) : Cx := genX X s H (genEnv scope cl C code bi X.env) fp (X.A.in1.in1.deeper (genEnv scope cl C code bi X.env)) pn
section
variable {X : Cx} {pins : List (Addr × Obj)} {σ : L2.St} {H : Hp} {s : Shared} {e : Bool}
theorem gen_make {k : Nat} {c P : Addr} {elt tg iter : Expr} {ifs : List Expr} {scope : Scope} {own : List (Str × Nat)} {gpos : Pos} {wi : TI} {g : TG} {tt : TT} {te : TE} {Q : VK} {Q' : Value → Shared → Prop} (hc : X.calm = true) (hr : Room k X.A) (hN : X.N.Nodup) (TB : TabB X.base X.mg c P) (hcode : X.env.code = .ref c)
    (ok : GenOk X.N X.env.scope scope own) (hi : PI X tg iter wi)
    (hg : ∀ (s : Shared) (H : Hp) (cl : List (Str × Addr)) (C : Addr) (code : Value) (bi : Addr) (fp : List Addr) (pn : List (Addr × Obj)), PG (genC X s H scope cl C code bi fp pn) tg g)
    (ht : ∀ (s : Shared) (H : Hp) (cl : List (Str × Addr)) (C : Addr) (code : Value) (bi : Addr) (fp : List Addr) (pn : List (Addr × Obj)), PTs (genC X s H scope cl C code bi fp pn) ifs tt)
    (he : ∀ (s : Shared) (H : Hp) (cl : List (Str × Addr)) (C : Addr) (code : Value) (bi : Addr) (fp : List Addr) (pn : List (Addr × Obj)), PE (genC X s H scope cl C code bi fp pn) elt te)
    (hs : ∀ v, genFold iter X.env v = pure v) (I : Inv X pins σ H s) (h : tGen P wi g tt te (own.map (·.2)) e σ H Q)
    (hQ : ∀ a gN n s5, Alive X X.A.in1.in1 pins σ e (fun H' => Q (.bl e) H') (fun H' => Q (.bl (!e)) H') a gN n s5 → Q' (.ref a) s5) :
    wpAny (model X.prog X.w) X.A (eval (.GeneratorExp elt [⟨tg, iter, ifs, 0⟩] scope gpos) X.env) Q' X.xe s := by
  have hfree : ∀ y ∈ scope.names, y.2 = .free → ∃ c, X.env.cells.lookup y.1 = some c := fun y hy e => by
    rcases ok.free y hy e with k | k
    · exact I.ok.has _ (.inl k)
    · exact I.ok.has _ (.inr k)
  refine wpAny_GeneratorExp_make ok.co (closure_ok hfree) ok.nocell ok.dot ok.kind hr.depth (thn (hi.run pins s σ H _ I h) fun xv s1 hx => thn hx fun itv s2 h2 => ?_) hs
  obtain ⟨it, fp, tn, J, H1, rfl, I2, T, st2, f2, ps, hP, htr, q⟩ := h2
  have hPs : s2.heap.get? P = some { cls := .none, data := .fields ps } := I2.hok P _ hP
  have cd : PySem.W.CodeHd s2.heap c P := TB.code.keeps fun b u e => I2.bk b u e
  refine ⟨I2.nolimit, ?_⟩
  have sz : ∀ b ∈ fp, b < s2.heap.objs.size := fun b hb => by
    obtain ⟨o, e, _⟩ := T.obj _ _ st2 b hb
    exact Heap.lt_size e
  have nP : P ∉ fp := fun hb => by
    have := (f2 P hb).1
    rw [hP] at this
    cases this
  have cont : ∀ (code : Value) (h3 : Heap) (tk : Nat) (H3 : Hp), Heap.ExtBut P s2.heap h3 → s2.heap.objs.size ≤ h3.objs.size → Inv X pins σ H3 { s2 with heap := h3, toks := tk } → Grown P ps H1 H3 → (∀ b, b < s2.heap.objs.size → b ≠ P → H3 b = H1 b) →
      wpAny (model X.prog X.w) X.A (builtinsFor X.env.globals X.env.builtins) (fun bi s₄ => ∀ h', h'.Ns s₄.heap.objs.size (fun y => if y = ".0" then some (Value.ref it) else none) → Heap.SameBut s₄.heap.objs.size (s₄.heap.push { cls := .type "frame", data := .dict #[] }) h' →
          Q' (.ref h'.objs.size) { s₄ with
            gens := s₄.gens.push (.fresh (.compStart (.GeneratorExp elt [⟨tg, iter, ifs, 0⟩] scope gpos) 0 (.ref it) .none (genEnv scope (cloFrom X.env.cells scope.names []) s₄.heap.objs.size code bi X.env))),
            toks := s₄.toks + 1 + 1 + 1,
            heap := h'.push { cls := .type "generator", data := .fields #[.int s₄.gens.size 0, .str "<genexpr>" (s₄.toks + 1), .str (X.env.qual ++ "<genexpr>") (s₄.toks + 1 + 1)] } }) X.xe { s2 with heap := h3, toks := tk } := by
    intro code h3 tk H3 hx hsz I4 hT2 hH3
    obtain ⟨bm, ob, e1, e2, e3, e4, e5, e6, e7, e8⟩ := TB.bm
    have keep3 : ∀ b u, b ≠ P → s2.heap.get? b = some u → h3.get? b = some u := fun b u hb e => hx b u hb e
    refine wpAny_builtinsFor (m := X.mg) (by rw [I2.ok.glob]; exact (I2.mod.glob.keeps I2.bk).extBut hx TB.gP) e1 e2 (keep3 _ _ e4 (I2.bk _ _ e5)) e6 e7 e8 ?_
    intro h' hn' hs'
    obtain ⟨W, ⟨m0, w0⟩, turn⟩ := q _ hT2
    have H3n : ∀ b ∈ fp, H3 b = none := fun b hb => by
      rw [hH3 b (sz b hb) (fun z => nP (z ▸ hb))]
      exact (f2 b hb).1
    -- the state ahead of the frame
    show Q' _ { ({ s2 with heap := h3, toks := tk } : Shared) with gens := _, toks := _, heap := _ }
    generalize hs4 : ({ s2 with heap := h3, toks := tk } : Shared) = s4 at I4
    have e4h : s4.heap = h3 := by rw [← hs4]
    have e4g : s4.gens = s2.gens := by rw [← hs4]
    have e4t : s4.toks = tk := by rw [← hs4]
    have hn4 : h'.Ns s4.heap.objs.size (fun y => if y = ".0" then some (Value.ref it) else none) := by rw [e4h]; exact hn'
    have hs4' : Heap.SameBut s4.heap.objs.size (s4.heap.push { cls := .type "frame", data := .dict #[] }) h' := by rw [e4h]; exact hs'
    have hsz' : h'.objs.size = s4.heap.objs.size + 1 := by rw [hs4'.1, Heap.size_push]
    have keep' : ∀ b o, s4.heap.get? b = some o → h'.get? b = some o := fun b o e => hs4'.extBut b o (Nat.ne_of_lt (Heap.lt_size e)) (Heap.get?_push_of_some _ e)
    have st4 : tn 0 s4.heap := T.keep _ _ _ st2 fun b hb o e => by rw [e4h]; exact keep3 b o (fun z => nP (z ▸ hb)) e
    dsimp only
    generalize hgo : ({ cls := .type "generator", data := .fields #[.int s4.gens.size 0, .str "<genexpr>" (s4.toks + 1), .str (X.env.qual ++ "<genexpr>") (s4.toks + 1 + 1)] } : Obj) = go
    generalize hce : genEnv scope (cloFrom X.env.cells scope.names []) s4.heap.objs.size code builtinsNs X.env = cenv
    generalize htk5 : s4.toks + 1 + 1 + 1 = tk5
    have hgo5 : (h'.push go).get? h'.objs.size = some go := Heap.get?_push_size _ (by rw [← hgo]; rfl)
    have f4 : ∀ b ∈ fp, FpOk X pins H3 b ∧ b < s4.heap.objs.size := fun b hb => by
      refine ⟨⟨H3n b hb, (f2 b hb).2⟩, ?_⟩
      rw [e4h]
      exact Nat.lt_of_lt_of_le (sz b hb) hsz
    have hsc : cenv.scope = scope := by rw [← hce]; rfl
    have I5 := gen_start (A := X.A.in1.in1.deeper cenv) (h' := h'.push go) (t' := tk5) (code := code) (bi := builtinsNs) (a := h'.objs.size) (go := go) (g' := s4.gens.push (.fresh (.compStart (.GeneratorExp elt [⟨tg, iter, ifs, 0⟩] scope gpos) 0 (.ref it) .none cenv))) I4 ok hN f4 rfl (hn4.push _) (fun b o e => Heap.get?_push_of_some _ (keep' b o e)) hgo5 (by omega)
      (fun v z => by rw [← hgo] at z; cases z) (I4.bare.push rfl) (by rw [hce]; exact Around.frames_deeper I4.ok.frames) hr.hd
    rw [hce] at I5
    have pg := hg s4 H3 (cloFrom X.env.cells scope.names []) s4.heap.objs.size code builtinsNs fp [(h'.objs.size, go)]
    unfold genC at pg
    rw [hce] at pg
    have pt := ht s4 H3 (cloFrom X.env.cells scope.names []) s4.heap.objs.size code builtinsNs fp [(h'.objs.size, go)]
    unfold genC at pt
    rw [hce] at pt
    have pe := he s4 H3 (cloFrom X.env.cells scope.names []) s4.heap.objs.size code builtinsNs fp [(h'.objs.size, go)]
    unfold genC at pe
    rw [hce] at pe
    have cL : cenv.locals = s4.heap.objs.size := by rw [← hce]; rfl
    have hL3 : ∀ b ∈ fp, b ≠ cenv.locals := fun b hb => by rw [cL]; exact Nat.ne_of_lt (f4 b hb).2
    have exf := I5.ok.exf
    have exfs := I5.ok.exfs
    have stat : ∀ {H' : Hp}, (∀ b ∈ fp, H' b = none) → ∀ b ∈ fp, FpOk (genX X s4 H3 cenv fp (X.A.in1.in1.deeper cenv) [(h'.objs.size, go)]) [] H' b := fun {H'} hn b hb =>
      ⟨hn b hb, (exf b hb).1, exfs b hb, .inl hb, fun x c e => (exf b hb).2 x c e, fun p hp => by
        have hp : p ∈ [(h'.objs.size, go)] ++ ([] : List (Addr × Obj)) := hp
        rw [List.append_nil, List.mem_singleton] at hp
        rw [hp]
        have := (f4 b hb).2
        refine fun (z : h'.objs.size = b) => ?_
        rw [← z] at this
        exact absurd (show h'.objs.size < s4.heap.objs.size from this) (by rw [hsz']; omega)⟩
    have wipe2 : ∀ (vs : List Nat) (σ : L2.St), L2.wipe (L2.wipe σ vs) vs = L2.wipe σ vs := fun vs σ => by
      apply List.ext_getElem?
      intro j
      by_cases hj : j ∈ vs
      · rw [wipe_in hj, wipe_in hj, wipe_length]
      · rw [wipe_out hj]
    -- back in the def's context
    have leave : ∀ {σ' : L2.St} {H' : Hp} {s' : Shared}, Inv (genX X s4 H3 cenv fp (X.A.in1.in1.deeper cenv) [(h'.objs.size, go)]) [] σ' H' s' → Inv X pins σ H' s' ∧ s'.heap.IsGen h'.objs.size s4.gens.size := fun {σ' H' s'} I6 => by
      refine ⟨I4.call' (ch := fp) I6.os I6.base I6.hok I6.bare fun b hb => ⟨(f4 b hb).1.2.2.2.1, (f4 b hb).1.2.1, (f4 b hb).1.2.2.2.2.1, (f4 b hb).1.2.2.2.2.2⟩, ?_⟩
      exact ⟨go, _, _, (I6.pin (h'.objs.size, go) (List.mem_append_left _ (List.mem_singleton.mpr rfl))).1, by rw [← hgo], by rw [← hgo], by rw [← hgo]⟩
    refine hQ h'.objs.size s4.gens.size (m0 + 1) _ ⟨⟨go, _, _, hgo5, by rw [← hgo], by rw [← hgo], by rw [← hgo]⟩, I5.nolimit, I4.bare.push rfl, _, Array.getElem?_push_size .., rfl, ?_⟩
    refine seg_imp (R := fun n s₀ r s₁ => r = .ok .next ∧ GEnd' (genX X s4 H3 cenv fp (X.A.in1.in1.deeper cenv) [(h'.objs.size, go)]) (L2.wipe σ (own.map (·.2))) (fun H' => Q (.bl e) H') n s₀ s₁) (Y := GYld (genX X s4 H3 cenv fp (X.A.in1.in1.deeper cenv) [(h'.objs.size, go)]) e (fun H' => Q (.bl (!e)) H'))
      (fun n s₀ r s₁ ⟨z1, H', z2, z3⟩ => ⟨z1, H', (leave z2).1, z3⟩) (fun n s₀ v s₁ kap kap' hkk ⟨b, z1, σ', H', z2, z3, z4⟩ => ⟨b, z1, H', (leave z2).1, (leave z2).2, fun hb s' y1 y2 y3 => hkk _ _ (z3 hb s' y1 y2 y3), z4⟩) (m0 + 1) ?_
    have I5' : Inv (genX X s4 H3 cenv fp (X.A.in1.in1.deeper cenv) [(h'.objs.size, go)]) [] (L2.wipe σ (own.map (·.2))) H3 (({ s4 with gens := s4.gens.push (.fresh (.compStart (.GeneratorExp elt [⟨tg, iter, ifs, 0⟩] scope gpos) 0 (.ref it) .none cenv)), heap := h'.push go, toks := tk5 } : Shared).setGen s4.gens.size .running) := I5.same rfl rfl (allBare_setGen I5.bare rfl)
    have st5 : tn 0 (h'.push go) := T.keep _ _ _ st4 fun b _ o e => Heap.get?_push_of_some _ (keep' b o e)
    have loop := fun s₀ => seg_run (Xg := genX X s4 H3 cenv fp (X.A.in1.in1.deeper cenv) [(h'.objs.size, go)]) (A2 := X.A.in1.in1) (e := e) (QT := fun H' => Q (.bl e) H') (QF := fun H' => Q (.bl (!e)) H') (scope := scope) (pos := gpos) (iter := iter) T over_gen hc rfl (by show cenv.scope.isCoroutine = false; rw [hsc]; exact ok.co) pg pt pe stat (wipe2 _ _)
      turn m0 0 (m0 + 1) s₀ _ H3 w0 I5' st5 H3n (Nat.lt_succ_self _)
    show Seg _ _ _ _ _ _ _ ((compStart (.GeneratorExp elt [⟨tg, iter, ifs, 0⟩] scope gpos) 0 (.ref it) .none cenv).onRaise (leaving cenv)) [] _
    unfold compStart
    rw [Sem.onRaise_eq_wrap]
    show Seg _ _ _ _ _ _ _ ((ask >>= _).wrap _ _ _ _) [] _
    refine seg_bind_wrap (wpAny_askSetting ?_)
    split
    · exact seg_again rfl (loop _)
    · first
        | exact seg_bind_wrap (wpAny_rule (seg_bind_wrap (wpAny_standAt (seg_bind_wrap (T.self _ 0 _ _ _ st5 (seg_again rfl (loop _)))))))
        | (refine seg_bind_wrap (wpAny_rule ?_); show Seg _ _ _ _ _ _ _ ((standAt iter.pos >>= _).wrap _ _ _ _) [] _; exact seg_bind_wrap (wpAny_standAt (seg_bind_wrap (T.self _ 0 _ _ _ st5 (seg_again rfl (loop _))))))
  cases hf : codeAmong gpos ps.toList with
  | none =>
    refine wpAny_genexprCodeX hcode (cd.code hPs htr) (cd.tab hPs) hf fun c' h' tk hx hge hlt hco' hrec htab' _ => ?_
    have nC : H1 c' = none := I2.hok.fresh hge
    obtain ⟨c2, oc, vs, t, e2, hoc, hd, hv⟩ := hrec
    cases e2
    refine cont _ h' tk (upd (upd H1 P (.tbl (ps ++ #[rawInt gpos.line, rawInt gpos.col, .ref c']))) c' (LamX.CodeO c' (X.env.qual ++ "<genexpr>"))) hx (Nat.le_trans hge (Nat.le_of_lt hlt)) (LamX.inv_table (t' := tk) I2 hP (fun b o hb e => hx b o hb e) htab'.2 hge ⟨oc, vs, t, hoc, hd, hv⟩) (.inr ⟨gpos, c', _, nC, rfl⟩) fun b hb hbP => ?_
    rw [upd_ne (Nat.ne_of_lt (Nat.lt_of_lt_of_le hb hge)), upd_ne hbP]
  | some cv =>
    refine wpAny_genexprCode_hit hcode (cd.code hPs htr) hf ?_
    exact cont cv s2.heap s2.toks H1 (Heap.ExtBut.refl _ _) (Nat.le_refl _) I2 (.inl rfl) fun _ _ _ => rfl
end
end Dl


set_option Elab.async false
set_option linter.all false
set_option maxRecDepth 100000
set_option maxHeartbeats 4000000
namespace Dl
open PySem PySem.Spec PyProof.Rows L2
open GxR (TabB Tabbed)

section
variable {X : Cx}
theorem pe_allG {c P : Addr} {elt tg iter : Expr} {ifs : List Expr} {scope : Scope} {own : List (Str × Nat)} {p pos gpos : Pos} {wi : TI} {g : TG} {tt : TT} {te : TE} {k : Nat} (hc : X.calm = true) (hr : Room k X.A) (hN : X.N.Nodup) (hgl : Gl X "all") (hm : X.mg "all" = none) (TB : TabB X.base X.mg c P) (hcode : X.env.code = .ref c)
    (ok : GenOk X.N X.env.scope scope own) (hi : PI X tg iter wi)
    (hg : ∀ (s : Shared) (H : Hp) (cl : List (Str × Addr)) (C : Addr) (code : Value) (bi : Addr) (fp : List Addr) (pn : List (Addr × Obj)), PG (genC X s H scope cl C code bi fp pn) tg g)
    (ht : ∀ (s : Shared) (H : Hp) (cl : List (Str × Addr)) (C : Addr) (code : Value) (bi : Addr) (fp : List Addr) (pn : List (Addr × Obj)), PTs (genC X s H scope cl C code bi fp pn) ifs tt)
    (he : ∀ (s : Shared) (H : Hp) (cl : List (Str × Addr)) (C : Addr) (code : Value) (bi : Addr) (fp : List Addr) (pn : List (Addr × Obj)), PE (genC X s H scope cl C code bi fp pn) elt te)
    (hs : ∀ v, genFold iter X.env v = pure v)
    (hst : starEach [.GeneratorExp elt [⟨tg, iter, ifs, 0⟩] scope gpos] X.env = (false, eval (.GeneratorExp elt [⟨tg, iter, ifs, 0⟩] scope gpos) X.env) :: starEach [] X.env := by rfl) :
    PE X (.Call (.Name "all" p) [.GeneratorExp elt [⟨tg, iter, ifs, 0⟩] scope gpos] [] pos) (tGen P wi g tt te (own.map (·.2)) true) := by
  refine ⟨fun pins s σ H Q I h => ?_⟩
  refine wpAny_Call_Name_kw (ld_blt I hgl hm boot_all ?_)
  refine PyProof.Rows.callWith_builtin1 ?_ hst (by rfl)
  rw [hst]
  show wpAny _ _ (spliced ((false, eval (.GeneratorExp elt [⟨tg, iter, ifs, 0⟩] scope gpos) X.env) :: backTo pos (starEach [] X.env))) _ _ s
  refine Calls.spliced_cons (gen_make hc hr hN TB hcode ok hi hg ht he hs I h fun a gN n s5 hA => ?_)
  refine Calls.spliced_nil ?_
  exact call_allG hr.hd hr.depth hA (fun H s' I' q => ⟨.bl true, H, I', rfl, q⟩) fun H s' I' q => ⟨.bl false, H, I', rfl, q⟩
theorem pe_anyG {c P : Addr} {elt tg iter : Expr} {ifs : List Expr} {scope : Scope} {own : List (Str × Nat)} {p pos gpos : Pos} {wi : TI} {g : TG} {tt : TT} {te : TE} {k : Nat} (hc : X.calm = true) (hr : Room k X.A) (hN : X.N.Nodup) (hgl : Gl X "any") (hm : X.mg "any" = none) (TB : TabB X.base X.mg c P) (hcode : X.env.code = .ref c)
    (ok : GenOk X.N X.env.scope scope own) (hi : PI X tg iter wi)
    (hg : ∀ (s : Shared) (H : Hp) (cl : List (Str × Addr)) (C : Addr) (code : Value) (bi : Addr) (fp : List Addr) (pn : List (Addr × Obj)), PG (genC X s H scope cl C code bi fp pn) tg g)
    (ht : ∀ (s : Shared) (H : Hp) (cl : List (Str × Addr)) (C : Addr) (code : Value) (bi : Addr) (fp : List Addr) (pn : List (Addr × Obj)), PTs (genC X s H scope cl C code bi fp pn) ifs tt)
    (he : ∀ (s : Shared) (H : Hp) (cl : List (Str × Addr)) (C : Addr) (code : Value) (bi : Addr) (fp : List Addr) (pn : List (Addr × Obj)), PE (genC X s H scope cl C code bi fp pn) elt te)
    (hs : ∀ v, genFold iter X.env v = pure v)
    (hst : starEach [.GeneratorExp elt [⟨tg, iter, ifs, 0⟩] scope gpos] X.env = (false, eval (.GeneratorExp elt [⟨tg, iter, ifs, 0⟩] scope gpos) X.env) :: starEach [] X.env := by rfl) :
    PE X (.Call (.Name "any" p) [.GeneratorExp elt [⟨tg, iter, ifs, 0⟩] scope gpos] [] pos) (tGen P wi g tt te (own.map (·.2)) false) := by
  refine ⟨fun pins s σ H Q I h => ?_⟩
  refine wpAny_Call_Name_kw (ld_blt I hgl hm boot_any ?_)
  refine PyProof.Rows.callWith_builtin1 ?_ hst (by rfl)
  rw [hst]
  show wpAny _ _ (spliced ((false, eval (.GeneratorExp elt [⟨tg, iter, ifs, 0⟩] scope gpos) X.env) :: backTo pos (starEach [] X.env))) _ _ s
  refine Calls.spliced_cons (gen_make hc hr hN TB hcode ok hi hg ht he hs I h fun a gN n s5 hA => ?_)
  refine Calls.spliced_nil ?_
  exact call_anyG hr.hd hr.depth hA (fun H s' I' q => ⟨.bl false, H, I', rfl, q⟩) fun H s' I' q => ⟨.bl true, H, I', rfl, q⟩
end

theorem among_snoc {pos p' : Pos} {c cv : Value} (l : List Value) (h : TriplesOk l) (hc : codeAmong p' (l ++ [rawInt pos.line, rawInt pos.col, c]) = some cv) : codeAmong p' l = some cv ∨ cv = c := LamX.among_app l h hc
/-- a table of code objects has grown -/
theorem SR.grown {Γ : Fr} {w : W} {ι : List Addr} {F : Hp} {σ : L2.St} {H H' : Hp} {P : Addr} {ps : Array Value} (S : SR Γ w ι F σ H) (hP : P ∈ Γ.T) (hp : H P = some (.tbl ps)) (h : Grown P ps H H') : ∃ F', SR Γ w ι F' σ H' ∧ Le ι F ι F' := by
  rcases h with rfl | ⟨pos, c, q, nc, rfl⟩
  · exact ⟨F, S, Le.refl _ _⟩
  · obtain ⟨S1, l⟩ := S.alloc (o := LamX.CodeO c q) nc (fun ps z => LamX.codeO_ne ps z)
    refine ⟨_, ?_, l⟩
    have nPc : P ≠ c := ne_of_none hp nc
    have hp1 : upd H c (LamX.CodeO c q) P = some (.tbl ps) := by rw [upd_ne nPc]; exact hp
    have eH : upd (upd H P (.tbl (ps ++ #[rawInt pos.line, rawInt pos.col, .ref c]))) c (LamX.CodeO c q) = upd (upd H c (LamX.CodeO c q)) P (.tbl (ps ++ #[rawInt pos.line, rawInt pos.col, .ref c])) := by
      funext b
      by_cases h1 : b = c
      · rw [h1, upd_same, upd_ne (Ne.symm nPc), upd_same]
      · rw [upd_ne h1]
        by_cases h2 : b = P
        · rw [h2, upd_same, upd_same]
        · rw [upd_ne h2, upd_ne h2, upd_ne h1]
    rw [eH]
    have hHc : upd H c (LamX.CodeO c q) c = some (LamX.CodeO c q) := upd_same
    have hFc : upd F c (LamX.CodeO c q) c = some (LamX.CodeO c q) := upd_same
    generalize upd H c (LamX.CodeO c q) = H1 at S1 hp1 hHc
    generalize upd F c (LamX.CodeO c q) = F1 at S1 hFc
    have kH : ∀ a u, (∀ ps, u ≠ .tbl ps) → H1 a = some u → upd H1 P (.tbl (ps ++ #[rawInt pos.line, rawInt pos.col, .ref c])) a = some u := fun a u hu e => by
      rw [upd_ne fun z => by rw [z, hp1] at e; exact hu ps (Option.some.inj e).symm]
      exact e
    have kF : ∀ a u, F1 a = some u → H1 a = some u → upd H1 P (.tbl (ps ++ #[rawInt pos.line, rawInt pos.col, .ref c])) a = some u := fun a u h e => kH a u (fun ps z => S1.ntab a ps (by rw [← z]; exact h)) e
    refine { S1 with sub := fun a u h => ?_, kp := fun a u h1 h2 h3 => ?_, kt := fun a ps h => ?_, tab := fun Q hQ => ?_, own := fun i d h => ?_, hid := fun q hq => ?_, sto := fun m u a h1 h2 => ?_ }
    · rcases S1.sub a u h with z | ⟨z, ob, r⟩
      · exact .inl (kF _ _ h z)
      · exact .inr ⟨z, ob, kH _ _ (fun ps z => by cases z) r⟩
    · rcases S1.kp a u h1 h2 h3 with z | ⟨z, ob, r⟩
      · exact .inl (kH _ _ h3 z)
      · exact .inr ⟨z, ob, kH _ _ (fun ps z => by cases z) r⟩
    · obtain ⟨ps', z⟩ := S1.kt a ps h
      by_cases ha : a = P
      · exact ⟨_, by rw [ha, upd_same]⟩
      · exact ⟨ps', by rw [upd_ne ha]; exact z⟩
    · by_cases ha : Q = P
      · rw [ha]
        obtain ⟨ps0, e0, t1, t2⟩ := S1.tab P hP
        rw [hp1] at e0
        cases e0
        have eL : (ps ++ #[rawInt pos.line, rawInt pos.col, Value.ref c]).toList = ps.toList ++ [rawInt pos.line, rawInt pos.col, .ref c] := by simp
        refine ⟨_, upd_same, by rw [eL]; exact PySem.TriplesOk_snoc _ _ _ _ t1, fun p' cv hcv => ?_⟩
        rw [eL] at hcv
        rcases among_snoc _ t1 hcv with z | z
        · obtain ⟨c0, q0, e1, e2, e3⟩ := t2 p' cv z
          exact ⟨c0, q0, e1, e2, kF _ _ e2 e3⟩
        · exact ⟨c, q, z, hFc, kF _ _ hFc hHc⟩
      · exact (S1.tab Q hQ).up (fun ps z => by rw [upd_ne ha]; exact z) (fun _ _ e => e) fun a u h e => kF a u h e
    · obtain ⟨a, q1, q2, q3, q4, q5⟩ := S1.own i d h
      refine ⟨a, q1, q2, q3, q4, ?_⟩
      obtain ⟨o, ho, ht⟩ := q5.some
      cases d with
      | lst ds => obtain ⟨vs, z1, z2⟩ := q5; exact ⟨vs, kH _ _ (fun ps z => by cases z) z1, z2⟩
      | dct t ks =>
        obtain ⟨u, vs, z1, z2⟩ := q5
        rw [ho] at z1
        cases z1
        exact ⟨o, vs, kH _ _ ht ho, z2⟩
      | _ => exact q5.elim
    · obtain ⟨q1, q2, q3, q4, q5⟩ := S1.hid q hq
      exact ⟨kH _ _ q5 q1, q2, q3, q4, q5⟩
    · obtain ⟨q1, q2⟩ := S1.sto m u a h1 h2
      refine ⟨q1, ?_⟩
      cases u with
      | lst ds => obtain ⟨vs, z1, z2⟩ := q2; exact ⟨vs, kH _ _ (fun ps z => by cases z) z1, z2⟩
      | dct t ks =>
        obtain ⟨u, vs, z1, z2, z3⟩ := q2
        have nu : ∀ ps, u ≠ .tbl ps := fun ps z => by
          subst z
          cases t with
          | false => obtain ⟨_, z, _⟩ := z2; cases z
          | true => obtain ⟨_, z, _⟩ := z2; unfold dN at z; cases z
        exact ⟨u, vs, ⟨z1.1.imp (kH _ _ nu) fun ⟨z, ob, r⟩ => ⟨z, ob, kH _ _ (fun ps z => by cases z) r⟩, fun y => kH _ _ nu (z1.2 y)⟩, z2, z3⟩
      | ins c fs => obtain ⟨dx, gs, z1, z2⟩ := q2; exact ⟨dx, gs, kH _ _ (fun ps z => by cases z) z1, z2⟩
theorem ItD.mono {g : Gm} {J : It} {ι ι' : List Addr} {F F' : Hp} {ds : List D} (it : ItD g J ι F ds) (l : Le ι F ι' F') : ItD g J ι' F' ds :=
  ⟨fun i Γ w ι2 F2 σ H S e l2 h => it.go i Γ w ι2 F2 σ H S e (l.trans l2) h, fun i Γ w ι2 F2 σ H S e l2 h => it.st i Γ w ι2 F2 σ H S e (l.trans l2) h, fun i d Γ w ι2 F2 σ H x H' S e l2 h y => it.yl i d Γ w ι2 F2 σ H x H' S e (l.trans l2) h y⟩
/-! ### all, any -/
def allL (e : Bool) (vs : List Nat) (as : D → M Unit) (ct : M Bool) (el : M D) : List D → M Bool
  | [] => M.ret e
  | d :: ds => fun w => (as d (w.wipe vs)).andThen fun _ => ct.bnd fun k => if k = true then el.bnd fun y => match y with
    | .bl b => if b = e then allL e vs as ct el ds else M.ret (!e)
    | _ => M.no
    else allL e vs as ct el ds
def eAll (e : Bool) (vs : List Nat) (mi : M (List D)) (as : D → M Unit) (ct : M Bool) (el : M D) : M D := mi.bnd fun ds => fun w1 => if noOwn vs w1.sl = true then
    (match allL e vs as ct el ds w1 with
    | .ok r w => .ok (.bl r) (w.back vs w1)
    | _ => .bad) else .bad
def Fr.qt (Γ : Fr) : Fr := { Γ with ex := fun _ _ => False }
theorem SR.qt {Γ : Fr} {w : W} {ι : List Addr} {F : Hp} {σ : L2.St} {H : Hp} (S : SR Γ w ι F σ H) : SR Γ.qt w ι F σ H := { S with }
theorem SR.unqt {Γ : Fr} {w : W} {ι : List Addr} {F : Hp} {σ : L2.St} {H : Hp} (S : SR Γ.qt w ι F σ H) : SR Γ w ι F σ H := { S with }
theorem all_den {Γ : Fr} {e : Bool} {J : It} {σ : L2.St} {H1 : Hp} {Q : VK} {as : D → M Unit} {ct : M Bool} {el : M D} {vs ks : List Nat} {ds : List D} {r : Bool} {w1 wE : W} {ι1 : List Addr} {F1 : Hp} (S1 : SR Γ w1 ι1 F1 σ H1) (it : ItD Γ.toGm J ι1 F1 ds) (hk : ∀ k ∈ ks, k ∈ vs) (no : noOwn vs w1.sl = true)
    (hE : allL e vs as ct el ds w1 = .ok r wE) (q : Po Γ ι1 F1 σ Q (.bl r) (wE.back vs w1)) : ∃ W : Nat → Nat → Hp → Prop, (∃ m, W 0 m H1) ∧ ∀ i m H, W i m H →
    (J.stop i H ∧ Q (.bl e) H) ∨ (J.go i H ∧ ∃ Nx : Hp → Prop, (∀ H', Nx H' → ∃ m', m' < m ∧ W (i + 1) m' H') ∧ ∀ x H', J.yld i H x H' →
      gTg Γ ks as x (L2.wipe σ vs) H' fun σ2 H2 => L2.wipe σ2 vs = L2.wipe σ vs ∧ Ga Γ (fun Γ' => tB Γ' ct) σ2 H2 fun b H3 =>
        if b = true then gEl Γ el σ2 H3 fun y H4 => ∃ b', y = .bl b' ∧ (b' = e → Nx H4) ∧ (b' ≠ e → Q (.bl (!e)) H4) else Nx H3) := by
  have end_ : ∀ {w : W} {ι : List Addr} {F : Hp} {H : Hp} {b : Bool}, SR Γ.qt (w.wipe vs) ι F (L2.wipe σ vs) H → Le ι1 F1 ι F → R.ok b w = R.ok r wE → Q (.bl b) H := fun {w ι F H b} S l h => by
    cases h
    exact q ι F H _ ((S.unqt).back S1 l no) l rfl
  refine ⟨fun i m H => m = ds.length - i ∧ i ≤ ds.length ∧ ∃ w ι F, SR Γ.qt (w.wipe vs) ι F (L2.wipe σ vs) H ∧ Le ι1 F1 ι F ∧ allL e vs as ct el (ds.drop i) w = .ok r wE, ⟨_, rfl, Nat.zero_le _, w1, ι1, F1, S1.qt.wipe vs, Le.refl _ _, hE⟩, ?_⟩
  rintro i m H ⟨rfl, hi, w, ι, F, S, l, hL⟩
  by_cases hlt : i < ds.length
  · refine .inr ⟨it.go i _ _ _ _ _ _ S rfl l hlt, fun H' => i + 1 ≤ ds.length ∧ ∃ w ι F, SR Γ.qt (w.wipe vs) ι F (L2.wipe σ vs) H' ∧ Le ι1 F1 ι F ∧ allL e vs as ct el (ds.drop (i + 1)) w = .ok r wE, fun H' z => ⟨ds.length - (i + 1), by omega, rfl, z⟩, fun x H' y => ?_⟩
    have hd : ds[i]? = some ds[i] := List.getElem?_eq_getElem hlt
    obtain ⟨F2, S2, l2, r2⟩ := it.yl i _ _ _ _ _ _ _ x H' S rfl l hd y
    rw [List.drop_eq_getElem_cons hlt] at hL
    obtain ⟨_, w3, e3, hL⟩ := andThen_inv (show (as ds[i] (w.wipe vs)).andThen _ = _ from hL)
    refine ⟨Γ.qt, ⟨rfl, fun _ _ h => h⟩, w.wipe vs, ι, F2, ds[i], S2, r2, ?_⟩
    rw [e3]
    intro ι3 F3 σ3 H3 S3 l3 sl3 ag3
    have we := wipe_eq hk sl3 ag3
    refine ⟨we, Γ.qt, ⟨rfl, fun _ _ h => h⟩, w3, ι3, F3, S3, ?_⟩
    obtain ⟨k, w4, e4, hL⟩ := andThen_inv (show (ct w3).andThen _ = _ from hL)
    rw [e4]
    intro ι4 F4 H4 S4 l4
    have l04 : Le ι1 F1 ι4 F4 := l.trans (l2.trans (l3.trans l4))
    cases k with
    | false =>
      rw [if_neg Bool.false_ne_true] at hL ⊢
      have S4' := S4.wipe vs
      rw [we] at S4'
      exact ⟨hlt, w4, ι4, F4, S4', l04, hL⟩
    | true =>
      rw [if_pos rfl] at hL ⊢
      obtain ⟨z, w5, e5, hL⟩ := andThen_inv (show (el w4).andThen _ = _ from hL)
      refine ⟨Γ.qt, ⟨rfl, fun _ _ h => h⟩, w4, ι4, F4, S4, ?_⟩
      rw [e5]
      intro ι5 F5 H5 v5 S5 l5 r5
      have S5' := S5.wipe vs
      rw [we] at S5'
      cases z with
      | bl bb =>
        refine ⟨bb, r5, fun hb => ?_, fun hb => ?_⟩
        · have hL : (if bb = e then allL e vs as ct el (ds.drop (i + 1)) else M.ret (!e)) w5 = .ok r wE := hL
          rw [if_pos hb] at hL
          exact ⟨hlt, w5, ι5, F5, S5', l04.trans l5, hL⟩
        · have hL : (if bb = e then allL e vs as ct el (ds.drop (i + 1)) else M.ret (!e)) w5 = .ok r wE := hL
          rw [if_neg hb] at hL
          exact end_ S5' (l04.trans l5) hL
      | _ => cases hL
  · have ei : i = ds.length := by omega
    refine .inl ⟨it.st i _ _ _ _ _ _ S rfl l (by omega), ?_⟩
    rw [ei, List.drop_length] at hL
    exact end_ S l hL
/-- the body's code object and its table -/
def HasTab (X : Cx) (Γ : Fr) : Prop := ∃ c P, TabB X.base X.mg c P ∧ X.env.code = .ref c ∧ P ∈ Γ.T
section
variable {X : Cx} {Γ : Fr} {elt tg iter : Expr} {ifs : List Expr} {scope : Scope} {own : List (Str × Nat)} {vs ks : List Nat} {mi : M (List D)} {as : D → M Unit} {ct : M Bool} {el : M D} {p pos gpos : Pos} {k : Nat}
theorem all_go {P : Addr} {e : Bool} {σ : L2.St} {H : Hp} {Q : VK} (hP : P ∈ Γ.T) (hk : ∀ k ∈ ks, k ∈ vs) (h : tD Γ (eAll e vs mi as ct el) σ H Q) : tGen P (tI Γ mi) (gTg Γ ks as) (Ga Γ fun Γ' => tB Γ' ct) (gEl Γ el) vs e σ H Q := by
  obtain ⟨w, ι, F, S, h⟩ := h
  refine ⟨w, ι, F, S, (RR.bnd h).mono fun ds w1 h1 => ?_⟩
  intro ι1 F1 H1 J S1 l1 it
  obtain ⟨ps, hp, tr, _⟩ := S1.tab P hP
  refine ⟨ps, hp, tr, fun H2 hT => ?_⟩
  obtain ⟨F2, S2, l2⟩ := S1.grown hP hp hT
  have h1 : RR Γ (if noOwn vs w1.sl = true then
    (match allL e vs as ct el ds w1 with
    | .ok r w => .ok (.bl r) (w.back vs w1)
    | _ => .bad) else .bad) (Po Γ ι F σ Q) := h1
  split at h1
  · rename_i no
    cases q : allL e vs as ct el ds w1 with
    | ok r wE =>
      rw [q] at h1
      exact all_den S2 (it.mono l2) hk no q ((show Po Γ ι F σ Q (.bl r) (wE.back vs w1) from h1).le (l1.trans l2))
    | exc x w => rw [q] at h1; exact h1.elim
    | bad => rw [q] at h1; exact h1.elim
  · exact h1.elim
theorem de_all (hc : X.calm = true) (hr : Room k X.A) (hN : X.N.Nodup) (hgl : Gl X "all") (hm : X.mg "all" = none) (hT : HasTab X Γ) (ok : GenOk X.N X.env.scope scope own) (hv : own.map (·.2) = vs) (hk : ∀ k ∈ ks, k ∈ vs) (hi : DI X Γ tg iter mi)
    (hg : ∀ (s : Shared) (H : Hp) (cl : List (Str × Addr)) (C : Addr) (code : Value) (bi : Addr) (fp : List Addr) (pn : List (Addr × Obj)) (Γ' : Fr), Inn Γ' Γ → DKt (genC X s H scope cl C code bi fp pn) Γ' tg ks as)
    (ht : ∀ (s : Shared) (H : Hp) (cl : List (Str × Addr)) (C : Addr) (code : Value) (bi : Addr) (fp : List Addr) (pn : List (Addr × Obj)) (Γ' : Fr), Inn Γ' Γ → DC (genC X s H scope cl C code bi fp pn) Γ' ifs ct)
    (he : ∀ (s : Shared) (H : Hp) (cl : List (Str × Addr)) (C : Addr) (code : Value) (bi : Addr) (fp : List Addr) (pn : List (Addr × Obj)) (Γ' : Fr), Inn Γ' Γ → DE (genC X s H scope cl C code bi fp pn) Γ' elt el)
    (hs : ∀ v, genFold iter X.env v = pure v := by intro _; rfl)
    (hst : starEach [.GeneratorExp elt [⟨tg, iter, ifs, 0⟩] scope gpos] X.env = (false, eval (.GeneratorExp elt [⟨tg, iter, ifs, 0⟩] scope gpos) X.env) :: starEach [] X.env := by rfl) :
    DE X Γ (.Call (.Name "all" p) [.GeneratorExp elt [⟨tg, iter, ifs, 0⟩] scope gpos] [] pos) (eAll true vs mi as ct el) := by
  subst hv
  obtain ⟨c, P, TB, hcode, hP⟩ := hT
  exact ⟨(pe_allG hc hr hN hgl hm TB hcode ok hi.pi (fun s H cl C code bi fp pn => pg_all (hg s H cl C code bi fp pn)) (fun s H cl C code bi fp pn => pt_all (ht s H cl C code bi fp pn)) (fun s H cl C code bi fp pn => pe_all (he s H cl C code bi fp pn)) hs hst).imp fun σ H Q h => all_go hP hk h⟩
theorem de_any (hc : X.calm = true) (hr : Room k X.A) (hN : X.N.Nodup) (hgl : Gl X "any") (hm : X.mg "any" = none) (hT : HasTab X Γ) (ok : GenOk X.N X.env.scope scope own) (hv : own.map (·.2) = vs) (hk : ∀ k ∈ ks, k ∈ vs) (hi : DI X Γ tg iter mi)
    (hg : ∀ (s : Shared) (H : Hp) (cl : List (Str × Addr)) (C : Addr) (code : Value) (bi : Addr) (fp : List Addr) (pn : List (Addr × Obj)) (Γ' : Fr), Inn Γ' Γ → DKt (genC X s H scope cl C code bi fp pn) Γ' tg ks as)
    (ht : ∀ (s : Shared) (H : Hp) (cl : List (Str × Addr)) (C : Addr) (code : Value) (bi : Addr) (fp : List Addr) (pn : List (Addr × Obj)) (Γ' : Fr), Inn Γ' Γ → DC (genC X s H scope cl C code bi fp pn) Γ' ifs ct)
    (he : ∀ (s : Shared) (H : Hp) (cl : List (Str × Addr)) (C : Addr) (code : Value) (bi : Addr) (fp : List Addr) (pn : List (Addr × Obj)) (Γ' : Fr), Inn Γ' Γ → DE (genC X s H scope cl C code bi fp pn) Γ' elt el)
    (hs : ∀ v, genFold iter X.env v = pure v := by intro _; rfl)
    (hst : starEach [.GeneratorExp elt [⟨tg, iter, ifs, 0⟩] scope gpos] X.env = (false, eval (.GeneratorExp elt [⟨tg, iter, ifs, 0⟩] scope gpos) X.env) :: starEach [] X.env := by rfl) :
    DE X Γ (.Call (.Name "any" p) [.GeneratorExp elt [⟨tg, iter, ifs, 0⟩] scope gpos] [] pos) (eAll false vs mi as ct el) := by
  subst hv
  obtain ⟨c, P, TB, hcode, hP⟩ := hT
  exact ⟨(pe_anyG hc hr hN hgl hm TB hcode ok hi.pi (fun s H cl C code bi fp pn => pg_all (hg s H cl C code bi fp pn)) (fun s H cl C code bi fp pn => pt_all (ht s H cl C code bi fp pn)) (fun s H cl C code bi fp pn => pe_all (he s H cl C code bi fp pn)) hs hst).imp fun σ H Q h => all_go hP hk h⟩
end
end Dl


set_option Elab.async false
set_option linter.all false
set_option maxRecDepth 100000
set_option maxHeartbeats 4000000
namespace Dl
open PySem PySem.Spec PyProof.Rows L2
open GxR (TabB)

/-- the names of a lambda with one parameter p, which stands in the slot j -/
structure LamOk (N : List Str) (sc scope : Scope) (p : Str) (j : Nat) : Prop where
  kind : scope.kind = .function
  co : scope.isCoroutine = false
  gen : scope.isGenerator = false
  nocell : ∀ y ∈ scope.names, y.2 ≠ .cell
  par : scope.names.lookup p = some .local
  ix : N[j]? = some p
  free : ∀ y ∈ scope.names, y.2 = .free → sc.names.lookup y.1 = some .cell ∨ sc.names.lookup y.1 = some .free
  own : ∀ y ∈ scope.names, y.2 = .local → y.1 = p
abbrev lamE (X : Cx) (scope : Scope) (q : Str) (L f c' : Addr) : Env := PySem.W.envX q scope L f (.ref c') (cloFrom X.env.cells scope.names [])
/-- the context of its body -/
abbrev lamX (X : Cx) (s : Shared) (H : Hp) (scope : Scope) (q : Str) (L f c' : Addr) : Cx := genX X s H (lamE X scope q L f c') [] (X.A.in1.deeper (lamE X scope q L f c')) []
section
variable {X : Cx} {pins : List (Addr × Obj)} {σ : L2.St} {H : Hp} {s : Shared}
theorem lam_startK {scope : Scope} {p q : Str} {j : Nat} {f c' : Addr} {x : V} {u : Value} {h' : Heap} {t' : Nat} (I : Inv X pins σ H s) (ok : LamOk X.N X.env.scope scope p j) (hN : X.N.Nodup) (r : RelV x u)
    (hn : h'.Ns s.heap.objs.size fun y => ([(p, u)] : List (Str × Value)).reverse.lookup y) (kp : ∀ b o, s.heap.get? b = some o → h'.get? b = some o) (hh : X.A.handled = none) :
    Inv (lamX X s H scope q s.heap.objs.size f c') [] ((L2.wipe σ [j]).set j (some x)) H { s with heap := h', toks := t' } := by
  have hfree : ∀ y ∈ scope.names, y.2 = .free → ∃ c, X.env.cells.lookup y.1 = some c := fun y hy e => by
    rcases ok.free y hy e with k | k
    · exact I.ok.has _ (.inl k)
    · exact I.ok.has _ (.inr k)
  unfold lamX
  generalize hcenv : lamE X scope q s.heap.objs.size f c' = cenv
  have hL : cenv.locals = s.heap.objs.size := by rw [← hcenv]
  have hF : cenv.frame = some s.heap.objs.size := by rw [← hcenv]
  have hcl : cenv.cells = cloFrom X.env.cells scope.names [] := by rw [← hcenv]
  have hsc : cenv.scope = scope := by rw [← hcenv]
  have cm : ∀ {y c}, (y, c) ∈ cloFrom X.env.cells scope.names [] → X.env.cells.lookup y = some c ∧ c < s.heap.objs.size := fun {y c} hm => by
    rcases cloFrom_mem hm with hm | ⟨h1, rfl⟩
    · cases hm
    · obtain ⟨c, hc⟩ := hfree _ h1 rfl
      rw [hc]
      obtain ⟨w, z⟩ := I.cell _ _ hc
      exact ⟨rfl, z.lt⟩
  have mem : ∀ {y c}, cenv.cells.lookup y = some c → X.env.cells.lookup y = some c ∧ c < s.heap.objs.size := fun {y c} e => by
    rw [hcl] at e
    exact cm (PySem.mem_of_lookup e)
  have look : ∀ {y}, scope.names.lookup y = some .free → ∃ c, cenv.cells.lookup y = some c ∧ X.env.cells.lookup y = some c := fun {y} hl => by
    have hy : (y, NameKind.free) ∈ scope.names := PySem.mem_of_lookup hl
    obtain ⟨c', e'⟩ := mem_lookup (cloFrom_has (cells := X.env.cells) (acc := []) hy)
    rw [← hcl] at e'
    exact ⟨c', e', (mem e').1⟩
  have nocell : ∀ y, scope.names.lookup y ≠ some .cell := fun y e => ok.nocell _ (PySem.mem_of_lookup e) rfl
  have hfr : (X.A.in1.deeper cenv).frames = some (cenv :: X.stack) := Around.frames_deeper I.ok.frames
  have okB : (genX X s H cenv [] (X.A.in1.deeper cenv) []).Ok := by
    refine ⟨I.ok.mod, by show cenv.scope.kind = _; rw [hsc]; exact ok.kind, by show cenv.globals = _; rw [← hcenv], by show cenv.builtins = _; rw [← hcenv], by show s.heap.objs.size ≤ cenv.locals; rw [hL]; exact Nat.le_refl _,
      fun y z c e1 e2 => I.ok.inj y z c (mem e1).1 (mem e2).1, fun y hy => ?_, fun y c z e => absurd (show false = true from z) Bool.false_ne_true, fun _ => hh, hfr, .inr ⟨rfl, by show cenv.frame = some cenv.locals; rw [hF, hL]⟩, fun b hb => absurd (show b ∈ ([] : List Addr) from hb) (by simp), I.bs, Nat.le_trans I.ok.bsz I.sz, fun b o e hb => absurd (show b ∈ ([] : List Addr) from hb) (by simp), fun b hb => absurd (show b ∈ ([] : List Addr) from hb) (by simp), I.stack, I.stkFree⟩
    show ∃ c, cenv.cells.lookup y = some c
    have hy : cenv.scope.names.lookup y = some .cell ∨ cenv.scope.names.lookup y = some .free := hy
    rw [hsc] at hy
    rcases hy with hy | hy
    · exact absurd hy (nocell y)
    · obtain ⟨c, h1, _⟩ := look hy
      exact ⟨c, h1⟩
  refine ⟨okB, rfl, I.bare, Un.kept kp, ⟨fun y => ([(p, u)] : List (Str × Value)).reverse.lookup y, ?_, fun i y av e1 e2 e3 => ?_⟩, fun y c e => ?_, ?_, fun y c e => ?_, fun p hp => absurd (show p ∈ ([] : List (Addr × Obj)) ++ [] from hp) (by simp), I.hok.kept kp, by rw [List.length_set, wipe_length]; exact I.len⟩
  · show h'.Ns cenv.locals _
    rw [hL]; exact hn
  · have e3 : Vis cenv.scope y := e3
    rw [hsc] at e3
    have e1 : X.N[i]? = some y := e1
    by_cases hij : i = j
    · subst hij
      rw [ok.ix] at e1
      cases e1
      have hi : i < (L2.wipe σ [i]).length := by
        by_cases hi : i < (L2.wipe σ [i]).length
        · exact hi
        · rw [List.getElem?_eq_none (by rw [List.length_set]; omega)] at e2
          cases e2
      rw [List.getElem?_set_self hi] at e2
      cases e2
      exact ⟨u, r, .inl ⟨by show cenv.scope.names.lookup p = _; rw [hsc]; exact ok.par, by simp⟩⟩
    · rw [List.getElem?_set_ne (Ne.symm hij)] at e2
      obtain ⟨e2, hne⟩ := wipe_some e2
      have hyp : y ≠ p := fun z => by
        rw [z] at e1
        exact hij (nodup_ix hN e1 ok.ix)
      have hfr : scope.names.lookup y = some .free := by
        rcases e3 with e3 | e3 | e3
        · exact absurd (ok.own _ (PySem.mem_of_lookup e3) rfl) hyp
        · exact absurd e3 (nocell y)
        · exact e3
      obtain ⟨m0, hn0, hl⟩ := I.loc
      have hvis : Vis X.env.scope y := (ok.free _ (PySem.mem_of_lookup hfr) rfl).elim (fun k => .inr (.inl k)) (fun k => .inr (.inr k))
      obtain ⟨w, r, q⟩ := hl i y av e1 e2 hvis
      refine ⟨w, r, .inr ⟨.inr (by show cenv.scope.names.lookup y = _; rw [hsc]; exact hfr), ?_⟩⟩
      obtain ⟨c, h1, h2⟩ := look hfr
      rcases q with ⟨k, _⟩ | ⟨_, c', e', z⟩
      · have k : X.env.scope.names.lookup y = some .local := k
        rcases ok.free _ (PySem.mem_of_lookup hfr) rfl with k' | k' <;> rw [show X.env.scope.names.lookup y = _ from k'] at k <;> cases k
      · rw [h2] at e'; cases e'
        exact ⟨c, h1, z.keeps kp⟩
  · have e : cenv.cells.lookup y = some c := e
    obtain ⟨w, z⟩ := I.cell y c (mem e).1
    exact ⟨w, z.keeps kp⟩
  · show H cenv.locals = none
    rw [hL]; exact I.hok.fresh (Nat.le_refl _)
  · have e : cenv.cells.lookup y = some c := e
    exact I.freeC y c (mem e).1
/-- the lambda is called with one value -/
theorem call_key {k : Nat} {scope : Scope} {params : Arguments} {body : Expr} {p q qq : Str} {j : Nat} {f c' : Addr} {pm ctv : Value} {x : V} {u : Value} {tb : TE} {Q : VK} (hr : Room k X.A) (I : Inv X pins σ H s) (ok : LamOk X.N X.env.scope scope p j) (hN : X.N.Nodup) (r : RelV x u)
    (hf : s.heap.get? f = some (PySem.W.kla_obj "<lambda>" qq params body scope (cloFrom X.env.cells scope.names []) pm c' ctv)) (hc : H c' = some (LamX.CodeO c' q))
    (hbind : ∀ u : Value, bindArgs (PySem.W.kla_fn "<lambda>" qq params body scope (cloFrom X.env.cells scope.names []) pm (.ref c') ctv) ⟨[u], []⟩ = pure [(p, u)])
    (hbody : PE (lamX X s H scope q s.heap.objs.size f c') body tb) (ht : tb ((L2.wipe σ [j]).set j (some x)) H Q) :
    wpAny (model X.prog X.w) X.A.in1 (call (.ref f) [u]) (EP X pins σ Q) (fun _ _ => False) s := by
  obtain ⟨⟨oc, vs, t, hoc, hdc, hvc⟩, _, _⟩ := I.hok c' _ hc
  refine wpAny_call (codeAny_of_tree ?_)
  show wpAny _ _ (callAny (.ref f) ⟨[u], []⟩) _ _ s
  simp only [callAny]
  refine wpAny_bind (wpAny_load hf ?_)
  simp only [callFunction]
  refine wpAny_bind (m := field (.ref c') 1) (wpAny_field hoc hdc hvc (wpAny_bind (wpAny_pure ?_)))
  rw [hbind u]
  refine wpAny_bind (wpAny_pure (wpAny_bind (wpAny_newFunctionEnv ok.nocell (fun y hy => ?_) (fun h₁ hns hsb => wpAny_bind (wpAny_enterFrame (I.nolimit.fresh _ hsb) hr.depth ?_)) ok.kind)))
  · have : y = (p, u) := by simpa using hy
    rw [this]
    exact ok.par
  · have kp : ∀ b o, s.heap.get? b = some o → h₁.get? b = some o := fun b o e => hsb.extBut b o (Nat.ne_of_lt (Heap.lt_size e)) (Heap.get?_push_of_some _ e)
    have J := lam_startK (q := q) (f := f) (c' := c') (t' := s.toks + ([(p, u)] : List (Str × Value)).length) I ok hN r hns kp hr.hd
    simp only [ok.gen, ok.co]
    refine wpAny_pure ⟨rfl, ?_⟩
    refine PySem.W.kla_codeExpr (wpAny_mono (hbody.run [] _ _ H Q J ht) (fun v s' hq => ?_) fun e s' hq => hq.elim)
    obtain ⟨w', H', J', rv, q'⟩ := hq
    exact ⟨w', H', I.call' (ch := []) J'.os J'.base J'.hok J'.bare (fun b hb => by cases hb), rv, q'⟩
end
end Dl


set_option Elab.async false
set_option linter.all false
set_option maxRecDepth 100000
set_option maxHeartbeats 4000000
namespace Dl
open PySem PySem.Spec PyProof.Rows L2
open GxR (TabB)

section
variable {X : Cx} {pins : List (Addr × Obj)} {σ : L2.St} {H : Hp} {s : Shared}
/-- the lambda is made -/
theorem lam_mk {c P : Addr} {ps : Array Value} {params : Arguments} {body : Expr} {scope : Scope} {pos : Pos} {E : Value → Shared → Prop} {Q : Value → Shared → Prop} (I : Inv X pins σ H s) (TB : TabB X.base X.mg c P) (hcode : X.env.code = .ref c)
    (hP : H P = some (.tbl ps)) (ht : TriplesOk ps.toList) (ha : ∀ (pos : Pos) (cv : Value), codeAmong pos ps.toList = some cv → ∃ c q, cv = .ref c ∧ H c = some (LamX.CodeO c q)) (hdef : defaultsOf params X.env = ([], [])) (hfree : ∀ y ∈ scope.names, y.2 = .free → ∃ c, X.env.cells.lookup y.1 = some c)
    (h : ∀ (f c' : Addr) (q : Str) (pm ctv : Value) (H1 : Hp) (s' : Shared), Inv X pins σ H1 s' → Grown P ps H H1 →
      s'.heap.get? f = some (PySem.W.kla_obj "<lambda>" (X.env.qual ++ "<lambda>") params body scope (cloFrom X.env.cells scope.names []) pm c' ctv) → H1 f = none → s.heap.objs.size ≤ f → H1 c' = some (LamX.CodeO c' q) → (∃ ps2 : Array Value, H1 P = some (.tbl ps2) ∧ codeAmong pos ps2.toList = some (.ref c')) → Q (.ref f) s') :
    wpAny (model X.prog X.w) X.A (eval (.Lambda params body scope pos) X.env) Q E s := by
  refine PySem.W.kla_eval hdef ?_
  have bP : s.heap.BuiltinsAt X.mg P := TB.bm.keeps I.bk
  have hP' : s.heap.get? P = some { cls := .none, data := .fields ps } := I.hok P _ hP
  cases hc : codeAmong pos ps.toList with
  | none =>
    refine PySem.W.kla_makeFunction (mg := X.mg) (c := c) (P := P) (ps := ps) (closure_ok hfree) I.ok.glob (I.mod.glob.keeps I.bk) hcode (TB.code.keeps I.bk) hP' ht hc TB.gP bP fun c' ctv h' tk hx hge hlt hrec htb => ?_
    obtain ⟨c2, oc, vs, t, e2, hoc, hd, hv⟩ := hrec
    cases e2
    have hsz : s.heap.objs.size ≤ h'.objs.size := Nat.le_trans hge (Nat.le_of_lt hlt)
    have nC : H c' = none := I.hok.fresh hge
    have I1 := LamX.inv_table (t' := tk) (more := #[rawInt pos.line, rawInt pos.col, .ref c']) (h' := h'.push (PySem.W.kla_obj "<lambda>" (X.env.qual ++ "<lambda>") params body scope (cloFrom X.env.cells scope.names []) ((X.mg "__name__").getD .none) c' ctv)) I hP
      (fun b o hb e => Heap.get?_push_of_some _ (hx b o hb e)) (Heap.get?_push_of_some _ htb) hge ⟨oc, vs, t, Heap.get?_push_of_some _ hoc, hd, hv⟩
    refine h h'.objs.size c' _ ((X.mg "__name__").getD .none) ctv _ _ I1 (.inr ⟨pos, c', _, nC, rfl⟩) (Heap.get?_push_size _ rfl) ?_ hsz upd_same ⟨ps ++ #[rawInt pos.line, rawInt pos.col, .ref c'], by rw [upd_ne (ne_of_none hP nC), upd_same], ?_⟩
    · have n1 : h'.objs.size ≠ c' := Nat.ne_of_gt hlt
      have n2 : h'.objs.size ≠ P := Nat.ne_of_gt (Nat.lt_of_lt_of_le (Heap.lt_size hP') hsz)
      rw [upd_ne n1, upd_ne n2]
      exact I.hok.fresh hsz
    · have eL : (ps ++ #[rawInt pos.line, rawInt pos.col, Value.ref c']).toList = ps.toList ++ [rawInt pos.line, rawInt pos.col, .ref c'] := by simp
      rw [eL]
      exact codeAmong_snoc _ ht hc
  | some cv =>
    obtain ⟨c', q, e, hco⟩ := ha pos cv hc
    subst e
    refine PySem.W.kla_makeFunctionHit (mg := X.mg) (c := c) (P := P) (ps := ps) (closure_ok hfree) I.ok.glob (I.mod.glob.keeps I.bk) hcode (TB.code.keeps I.bk) hP' ht hc bP fun ctv h' tk hx hsz => ?_
    have I1 : Inv X pins σ H { s with heap := h'.push (PySem.W.kla_obj "<lambda>" (X.env.qual ++ "<lambda>") params body scope (cloFrom X.env.cells scope.names []) ((X.mg "__name__").getD .none) c' ctv), toks := tk } := I.kept fun b o e => Heap.get?_push_of_some _ (hx b o e)
    exact h h'.objs.size c' q ((X.mg "__name__").getD .none) ctv H _ I1 (.inl rfl) (Heap.get?_push_size _ rfl) (I.hok.fresh hsz) hsz hco ⟨ps, hP, hc⟩
/-- an object of a builtin's own: it may be changed at will -/
theorem _root_.L2.Inv.own_write {a : Addr} {h' : Heap} {t' : Nat} (I : Inv X pins σ H s) (f : FpOk X pins H a) (k : ∀ b o, b ≠ a → s.heap.get? b = some o → h'.get? b = some o) : Inv X pins σ H { s with heap := h', toks := t' } := by
  obtain ⟨f0, f1, f2, f3, f4, f5⟩ := f
  exact I.turned (t' := t') k f0 f1 f3 f4 f5
theorem _root_.L2.FpOk.to {pins' : List (Addr × Obj)} {H' : Hp} {a : Addr} (f : FpOk X pins H a) (hn : H' a = none) (hp : ∀ p ∈ pins', p.1 ≠ a ∨ p ∈ pins) : FpOk X pins' H' a := by
  obtain ⟨f0, f1, f2, f3, f4, f5⟩ := f
  refine ⟨hn, f1, f2, f3, f4, fun p hq => ?_⟩
  rcases List.mem_append.mp hq with z | z
  · exact f5 p (List.mem_append_left _ z)
  · rcases hp p z with y | y
    · exact y
    · exact f5 p (List.mem_append_right _ y)
/-- min's loop with a key: b the best so far, kb its key -/
theorem minK_loop {f l S It : Addr} {fo : Obj} {xs : List V} {tk : V → Hp → (V → Hp → Prop) → Prop} {Q : VK} {W : Nat → V → Int → Hp → Prop} {E : Value → Shared → Prop} (hc : X.calm = true) (hd : X.A.handled = none)
    (hSI : S ≠ It) (hlI : l ≠ It) (hlS : l ≠ S) (hpf : (f, fo) ∈ pins)
    (call_ : ∀ (pl : List (Addr × Obj)) (s : Shared) (H : Hp) (x : V) (u : Value) (R : VK), (f, fo) ∈ pl → Inv X pl σ H s → RelV x u → tk x H R → wpAny (model X.prog X.w) X.A.in1 (call (.ref f) [u]) (EP X pl σ R) (fun _ _ => False) s)
    (wl : ∀ i b k H, W i b k H → SqL X.K H l xs)
    (ws : ∀ i b kb H x, W i b kb H → xs[i]? = some x → tk x H fun y H' => ∃ k, y = .int k ∧ (if k < kb then W (i + 1) x k H' else W (i + 1) b kb H')) :
    ∀ (r i : Nat) (s : Shared) (H : Hp) (b : V) (kb : Int) (vb : Value) (tb : Tok) (cS : Nat), xs.length - i = r → i ≤ xs.length → W i b kb H → Inv X pins σ H s → FpOk X pins H S → FpOk X pins H It → s.heap.IsListIter It l i →
      s.heap.get? S = some (seqObj "list" #[vb, .int kb tb] cS) → RelV b vb → (∀ b kb H, W xs.length b kb H → Q b H) →
      codeAny (model X.prog X.w) X.A (.builtin "min.loop" ⟨[.ref It, .ref f, .ref S], []⟩) (fun r s' => match r with | .ok (.ret v) => EP X pins σ Q v s' | .ok _ => False | .error e => E e s') s := by
  have hname : (toString "min" ++ toString ".loop" : String) = "min.loop" := by decide
  intro r
  induction r with
  | zero =>
    intro i s H b kb vb tb cS hr hi w I fS fI hit hS rb hQ
    have hin : i = xs.length := by omega
    obtain ⟨its, rv, pl, hz⟩ := I.list (wl i b kb H w)
    have hlen := rv.length
    refine codeAny_builtin PySem.F.entry_min_loop ?_
    rw [Around.under_plainId PySem.F.plain_min_loop _]
    show wpAny _ X.A.in1 (seqItems? (.ref S) >>= _) _ _ _
    refine wpAny_bind (wpAny_seqItems hS rfl ?_)
    show wpAny _ X.A.in1 (tryCatch (pyNext (.ref It)) _ >>= _) _ _ _
    refine wpAny_bind (wpAny_tryCatch (wpAny_pyNext_list_end hd hit pl.isList (by simp; omega) fun h' eb => ?_))
    have I1 : Inv X pins σ H { s with heap := h' } := I.own_write (t' := s.toks) fI fun b o hb e => eb b o hb e
    have hS' := eb S _ hSI hS
    show wpAny _ X.A.in1 (updateSeq S (fun _ => #[]) >>= _) _ _ _
    refine wpAny_bind ?_
    refine wpAny_updateSeq hS' rfl (wpAny_bind (wpAny_letGo (wpAny_pure ?_)))
    rw [hin] at w
    exact ⟨b, H, I1.own_write (t' := s.toks) fS fun b o hb e => (Heap.get?_update_other _ _ (Ne.symm hb)).trans e, rb, hQ b kb H w⟩
  | succ r ih =>
    intro i s H b kb vb tb cS hr hi w I fS fI hit hS rb hQ
    have hlt : i < xs.length := by omega
    obtain ⟨its, rv, pl, hz⟩ := I.list (wl i b kb H w)
    obtain ⟨u, hu, ru⟩ := rv.get (List.getElem?_eq_getElem hlt)
    refine codeAny_builtin PySem.F.entry_min_loop ?_
    rw [Around.under_plainId PySem.F.plain_min_loop _]
    show wpAny _ X.A.in1 (seqItems? (.ref S) >>= _) _ _ _
    refine wpAny_bind (wpAny_seqItems hS rfl ?_)
    show wpAny _ X.A.in1 (tryCatch (pyNext (.ref It)) _ >>= _) _ _ _
    refine wpAny_bind (wpAny_tryCatch (wpAny_pyNext_list_item hit pl.isList (x := u) (by simpa using hu) fun h' hit' sb => ?_))
    have I1 : Inv X pins σ H { s with heap := h' } := I.own_write (t' := s.toks) fI fun b o hb e => (sb.2 b hb).trans e
    have hS1 : h'.get? S = some (seqObj "list" #[vb, .int kb tb] cS) := (sb.2 S hSI).trans hS
    obtain ⟨oI, hoI, hoc, hod⟩ := id hit'
    have I2 : Inv X (pins ++ [(S, seqObj "list" #[vb, .int kb tb] cS), (It, oI)]) σ H { s with heap := h' } := I1.pins_of fun p hp => by
      rcases List.mem_append.mp hp with z | z
      · exact I1.pin p (List.mem_append_right _ z)
      · rcases List.mem_cons.mp z with z | z
        · rw [z]
          exact ⟨hS1, fS.1, fS.2.1, fS.2.2.1, fun v q => by cases q⟩
        · rw [List.mem_singleton.mp z]
          exact ⟨hoI, fI.1, fI.2.1, fI.2.2.1, fun v q => by rw [hod] at q; cases q⟩
    show wpAny _ X.A.in1 (tryCatch (holding [u] (call (.ref f) [u])) _ >>= _) _ _ _
    refine wpAny_bind (wpAny_tryCatch (wpAny_holding (wpAny_mono (call_ _ _ H _ u _ (List.mem_append_left _ hpf) I2 ru (ws i b kb H _ w (List.getElem?_eq_getElem hlt))) (fun ky s2 hk => ?_) fun _ _ hF => hF.elim)))
    obtain ⟨y, H2, I3, ry, k, rfl, w2⟩ := hk
    obtain ⟨t2, rfl⟩ := ry
    have pS := I3.pin (S, seqObj "list" #[vb, .int kb tb] cS) (List.mem_append_right _ (List.mem_append_right _ (.head _)))
    have pI := I3.pin (It, oI) (List.mem_append_right _ (List.mem_append_right _ (.tail _ (.head _))))
    have I4 : Inv X pins σ H2 s2 := I3.unpinned
    have fS2 : FpOk X pins H2 S := fS.to pS.2.1 fun p hp => .inr hp
    have fI2 : FpOk X pins H2 It := fI.to pI.2.1 fun p hp => .inr hp
    have hit2 : s2.heap.IsListIter It l (i + 1) := ⟨oI, pI.1, hoc, hod⟩
    show wpAny _ X.A.in1 (tryCatch (holding [u, .int k t2] (richCompare .Lt (.int k t2) (.int kb tb) >>= _)) _ >>= _) _ _ _
    refine wpAny_bind (wpAny_tryCatch (wpAny_holding (wpAny_bind (CmpOf.ints_lt (prog := X.prog) (w := X.w) (A := X.A.in1) (P := fun (n : Nat) v => ∃ t, v = .int (if n = 0 then k else kb) t) (fun n => if n = 0 then k else kb) (fun n v h => h) 0 1 _ _ _ _ _ ⟨t2, rfl⟩ ⟨tb, rfl⟩ ?_))))
    refine wpAny_bind (wpAny_holding (wpAny_truthy_bool ?_))
    refine wpAny_bind (wpAny_letGo (wpAny_pure ?_))
    simp only [if_true, if_false, Nat.one_ne_zero]
    by_cases hb' : k < kb
    · have s1 := Heap.SameBut.update s2.heap S (Obj.mapSeq fun _ => #[u, .int k t2])
      obtain ⟨c2, hc2⟩ : ∃ c2, (s2.heap.update S (Obj.mapSeq fun _ => #[u, .int k t2])).get? S = some (seqObj "list" #[u, .int k t2] c2) := ⟨_, get?_update_seq pS.1 fun _ => #[u, .int k t2]⟩
      rw [if_pos hb'] at w2
      simp only [hb', decide_true, if_true]
      refine wpAny_bind ?_
      refine wpAny_updateSeq pS.1 rfl (wpAny_bind (wpAny_letGo ?_))
      rw [hname]
      have I5 : Inv X pins σ H2 { s2 with heap := s2.heap.update S (Obj.mapSeq fun _ => #[u, .int k t2]) } := I4.own_write (t' := s2.toks) fS2 fun b o hb e => (s1.2 b hb).trans e
      exact wpAny_pure ⟨plainId_quiet PySem.F.plain_min_loop _, ih (i + 1) _ H2 _ k u t2 c2 (by omega) hlt w2 I5 fS2 fI2 ⟨oI, (s1.2 It hSI.symm).trans pI.1, hoc, hod⟩ hc2 ru hQ⟩
    · rw [if_neg hb'] at w2
      simp only [hb', decide_false, Bool.false_eq_true, if_false]
      refine wpAny_bind (wpAny_letGo ?_)
      rw [hname]
      exact wpAny_pure ⟨plainId_quiet PySem.F.plain_min_loop _, ih (i + 1) s2 H2 b kb vb tb cS (by omega) hlt w2 I4 fS2 fI2 hit2 pS.1 rb hQ⟩
end
end Dl


set_option Elab.async false
set_option linter.all false
set_option maxRecDepth 100000
set_option maxHeartbeats 4000000
namespace Dl
open PySem PySem.Spec PyProof.Rows L2
open GxR (TabB)

section
variable {X : Cx} {pins : List (Addr × Obj)} {σ : L2.St} {H : Hp} {s : Shared}
theorem call_minK {f l : Addr} {fo : Obj} {x0 : V} {xs : List V} {tk : V → Hp → (V → Hp → Prop) → Prop} {Q : VK} {W : Nat → V → Int → Hp → Prop} {E : Value → Shared → Prop} (hc : X.calm = true) (hd : X.A.handled = none) (I : Inv X pins σ H s) (hpf : (f, fo) ∈ pins)
    (call_ : ∀ (pl : List (Addr × Obj)) (s : Shared) (H : Hp) (x : V) (u : Value) (R : VK), (f, fo) ∈ pl → Inv X pl σ H s → RelV x u → tk x H R → wpAny (model X.prog X.w) X.A.in1 (call (.ref f) [u]) (EP X pl σ R) (fun _ _ => False) s)
    (hl : SqL X.K H l (x0 :: xs)) (w0 : tk x0 H fun y H' => ∃ k, y = .int k ∧ W 1 x0 k H') (wl : ∀ i b k H, W i b k H → SqL X.K H l (x0 :: xs))
    (ws : ∀ i b kb H x, W i b kb H → (x0 :: xs)[i]? = some x → tk x H fun y H' => ∃ k, y = .int k ∧ (if k < kb then W (i + 1) x k H' else W (i + 1) b kb H'))
    (hQ : ∀ b kb H, W (xs.length + 1) b kb H → Q b H) : wpAny (model X.prog X.w) X.A (call (.builtin "min") [.ref l] [(Str.ofString "key", .ref f)]) (EP X pins σ Q) E s := by
  have hname : (toString "min" ++ toString ".loop" : String) = "min.loop" := by decide
  obtain ⟨its, rv, pl, hz⟩ := I.list hl
  obtain ⟨ol, hol, _⟩ := id pl.isList
  have hll : l < s.heap.objs.size := Heap.lt_size hol
  refine kmk_tree PySem.F.kind_min PySem.F.plain_min PySem.F.entry_min (kmk_min_key _ _) ?_
  show wpAny _ X.A.in1 (Builtin.Builtins.bindParams "min" ["key", "default"] 0 ⟨[], [(Str.ofString "key", .ref f)]⟩ >>= _) _ _ s
  refine wpAny_bind (wpAny_of_eq (show Builtin.Builtins.bindParams "min" ["key", "default"] 0 ⟨[], [(Str.ofString "key", .ref f)]⟩ = pure [some (.ref f), none] from rfl) ?_)
  refine wpAny_bind (wpAny_pure ?_)
  refine wpAny_bind (wpAny_pyIter_list pl.isList ?_)
  refine wpAny_bind (wpAny_newList ?_ (Nat.zero_le _))
  rw [hname]
  have hS : (s.heap.push { cls := .type "list_iterator", data := .fields #[.ref l, .int 0 0] }).objs.size = s.heap.objs.size + 1 := size_push' ..
  rw [hS]
  have hlI : l ≠ s.heap.objs.size := Nat.ne_of_lt hll
  have hlS : l ≠ s.heap.objs.size + 1 := Nat.ne_of_lt (Nat.lt_succ_of_lt hll)
  have hSI : s.heap.objs.size + 1 ≠ s.heap.objs.size := Nat.succ_ne_self _
  refine wpAny_pure ⟨plainId_quiet PySem.F.plain_min_loop _, ?_⟩
  have kp : ∀ b o, s.heap.get? b = some o → ((s.heap.push { cls := .type "list_iterator", data := .fields #[.ref l, .int 0 0] }).push (seqObj "list" #[] 0)).get? b = some o := fun b o e => Heap.get?_push_of_some _ (Heap.get?_push_of_some _ e)
  have IH : Inv X pins σ H { s with heap := (s.heap.push { cls := .type "list_iterator", data := .fields #[.ref l, .int 0 0] }).push (seqObj "list" #[] 0) } := I.kept (t' := s.toks) kp
  have gI : ((s.heap.push { cls := .type "list_iterator", data := .fields #[.ref l, .int 0 0] }).push (seqObj "list" #[] 0)).get? s.heap.objs.size = some { cls := .type "list_iterator", data := .fields #[.ref l, .int 0 0] } :=
    Heap.get?_push_of_some _ (Heap.get?_push_size _ rfl)
  have gS : ((s.heap.push { cls := .type "list_iterator", data := .fields #[.ref l, .int 0 0] }).push (seqObj "list" #[] 0)).get? (s.heap.objs.size + 1) = some (seqObj "list" #[] 0) := by
    have := Heap.get?_push_size (s.heap.push { cls := .type "list_iterator", data := .fields #[.ref l, .int 0 0] }) (o := seqObj "list" #[] 0) rfl
    rw [hS] at this
    exact this
  have fI : FpOk X pins H s.heap.objs.size := I.fpOk (Nat.le_refl _) (I.hok.fresh (Nat.le_refl _))
  have fS : FpOk X pins H (s.heap.objs.size + 1) := I.fpOk (Nat.le_succ _) (I.hok.fresh (Nat.le_succ _))
  obtain ⟨its2, rv2, pl2, _⟩ := IH.list hl
  obtain ⟨u, hu, ru⟩ := rv2.get (i := 0) (show (x0 :: xs)[0]? = some x0 from rfl)
  refine codeAny_builtin PySem.F.entry_min_loop ?_
  rw [Around.under_plainId PySem.F.plain_min_loop _]
  show wpAny _ X.A.in1 (seqItems? (.ref _) >>= _) _ _ _
  refine wpAny_bind (wpAny_seqItems gS rfl ?_)
  show wpAny _ X.A.in1 (tryCatch (pyNext (.ref s.heap.objs.size)) _ >>= _) _ _ _
  refine wpAny_bind (wpAny_tryCatch (wpAny_pyNext_list_item (i := 0) ⟨_, gI, rfl, rfl⟩ pl2.isList (x := u) (by simpa using hu) fun h' hit' sb => ?_))
  have I1 : Inv X pins σ H { s with heap := h' } := IH.own_write (t' := s.toks) fI fun b o hb e => (sb.2 b hb).trans e
  have hS1 : h'.get? (s.heap.objs.size + 1) = some (seqObj "list" #[] 0) := (sb.2 _ hSI).trans gS
  obtain ⟨oI, hoI, hoc, hod⟩ := id hit'
  have I2 : Inv X (pins ++ [(s.heap.objs.size + 1, seqObj "list" #[] 0), (s.heap.objs.size, oI)]) σ H { s with heap := h' } := I1.pins_of fun p hp => by
    rcases List.mem_append.mp hp with z | z
    · exact I1.pin p (List.mem_append_right _ z)
    · rcases List.mem_cons.mp z with z | z
      · rw [z]
        exact ⟨hS1, fS.1, fS.2.1, fS.2.2.1, fun v q => by cases q⟩
      · rw [List.mem_singleton.mp z]
        exact ⟨hoI, fI.1, fI.2.1, fI.2.2.1, fun v q => by rw [hod] at q; cases q⟩
  show wpAny _ X.A.in1 (tryCatch (holding [u] (call (.ref f) [u])) _ >>= _) _ _ _
  refine wpAny_bind (wpAny_tryCatch (wpAny_holding (wpAny_mono (call_ _ _ H _ u _ (List.mem_append_left _ hpf) I2 ru w0) (fun ky s2 hk => ?_) fun _ _ hF => hF.elim)))
  obtain ⟨y, H2, I3, ry, k, rfl, w2⟩ := hk
  obtain ⟨t2, rfl⟩ := ry
  have pS := I3.pin (s.heap.objs.size + 1, seqObj "list" #[] 0) (List.mem_append_right _ (List.mem_append_right _ (.head _)))
  have pI := I3.pin (s.heap.objs.size, oI) (List.mem_append_right _ (List.mem_append_right _ (.tail _ (.head _))))
  have I4 : Inv X pins σ H2 s2 := I3.unpinned
  have fS2 : FpOk X pins H2 (s.heap.objs.size + 1) := fS.to pS.2.1 fun p hp => .inr hp
  have fI2 : FpOk X pins H2 s.heap.objs.size := fI.to pI.2.1 fun p hp => .inr hp
  have s1 := Heap.SameBut.update s2.heap (s.heap.objs.size + 1) (Obj.mapSeq fun _ => #[u, .int k t2])
  obtain ⟨c2, hc2⟩ : ∃ c2, (s2.heap.update (s.heap.objs.size + 1) (Obj.mapSeq fun _ => #[u, .int k t2])).get? (s.heap.objs.size + 1) = some (seqObj "list" #[u, .int k t2] c2) := ⟨_, get?_update_seq pS.1 fun _ => #[u, .int k t2]⟩
  show wpAny _ X.A.in1 (updateSeq (s.heap.objs.size + 1) (fun _ => #[u, .int k t2]) >>= _) _ _ _
  refine wpAny_bind ?_
  refine wpAny_updateSeq pS.1 rfl ?_
  rw [hname]
  have I5 : Inv X pins σ H2 { s2 with heap := s2.heap.update (s.heap.objs.size + 1) (Obj.mapSeq fun _ => #[u, .int k t2]) } := I4.own_write (t' := s2.toks) fS2 fun b o hb e => (s1.2 b hb).trans e
  refine wpAny_pure ⟨plainId_quiet PySem.F.plain_min_loop _, ?_⟩
  exact minK_loop hc hd hSI hlI hlS hpf call_ wl ws _ 1 _ H2 x0 k u t2 c2 rfl (by simp) w2 I5 fS2 fI2 ⟨oI, (s1.2 _ hSI.symm).trans pI.1, hoc, hod⟩ hc2 ru hQ
/-- min(e, key=lambda p: body) -/
def tMinK (K : PySem.W.Frag) (P : Addr) (lpos : Pos) (ta tb : TE) (j : Nat) : TE := fun σ H Q => ta σ H fun x H1 => ∃ l x0 xs ps, x = .ref l ∧ SqL K H1 l (x0 :: xs) ∧ H1 P = some (.tbl ps) ∧ TriplesOk ps.toList ∧ (∀ (pos : Pos) (cv : Value), codeAmong pos ps.toList = some cv → ∃ c q, cv = .ref c ∧ H1 c = some (LamX.CodeO c q)) ∧
  ∀ H2 c' q, Grown P ps H1 H2 → H2 c' = some (LamX.CodeO c' q) → (∃ ps2 : Array Value, H2 P = some (.tbl ps2) ∧ codeAmong lpos ps2.toList = some (.ref c')) → ∃ W : Nat → V → Int → Hp → Prop, SqL K H2 l (x0 :: xs) ∧
    (tb ((L2.wipe σ [j]).set j (some x0)) H2 fun y H' => ∃ k, y = .int k ∧ W 1 x0 k H') ∧ (∀ i b k H, W i b k H → SqL K H l (x0 :: xs) ∧ H c' = some (LamX.CodeO c' q)) ∧
    (∀ i b kb H x, W i b kb H → (x0 :: xs)[i]? = some x → tb ((L2.wipe σ [j]).set j (some x)) H fun y H' => ∃ k, y = .int k ∧ (if k < kb then W (i + 1) x k H' else W (i + 1) b kb H')) ∧
    ∀ b kb H, W (xs.length + 1) b kb H → Q b H
end
end Dl


set_option Elab.async false
set_option linter.all false
set_option maxRecDepth 100000
set_option maxHeartbeats 4000000
namespace Dl
open PySem PySem.Spec PyProof.Rows L2
open GxR (TabB)

section
variable {X : Cx}
theorem pe_minK {c P : Addr} {e body : Expr} {params : Arguments} {scope : Scope} {pp : Str} {j k : Nat} {p0 pos kpos lpos : Pos} {ta tb : TE} (hc : X.calm = true) (hr : Room k X.A) (hN : X.N.Nodup) (hgl : Gl X "min") (hm : X.mg "min" = none) (hv : bootBuiltins "min" = some (.builtin "min")) (TB : TabB X.base X.mg c P) (hcode : X.env.code = .ref c)
    (ok : LamOk X.N X.env.scope scope pp j) (ha : PE X e ta) (hdef : defaultsOf params X.env = ([], []) := by rfl)
    (hbind : ∀ (qq : Str) (clos : List (Str × Addr)) (pm ctv : Value) (c' : Addr) (u : Value), bindArgs (PySem.W.kla_fn "<lambda>" qq params body scope clos pm (.ref c') ctv) ⟨[u], []⟩ = pure [(pp, u)])
    (hb : ∀ (s : Shared) (H : Hp) (q : Str) (L f c' : Addr), PE (lamX X s H scope q L f c') body tb)
    (hmono : ∀ σ H (Q Q' : VK), ta σ H Q → (∀ x H1, Q x H1 → Q' x H1) → ta σ H Q') (hst : starEach [e] X.env = (false, eval e X.env) :: starEach [] X.env := by rfl)
    (he : backTo pos (starEach [e] X.env) = (false, eval e X.env) :: backTo pos (starEach [] X.env) := by rfl) (hpl : (backTo pos (starEach [e] X.env)).any (·.1) = false := by rfl)
    (hall : (backToKw pos (keywordEach [⟨some "key", .Lambda params body scope lpos, kpos⟩] X.env)).all (·.1.isSome) = true := by rfl) (hnone : (backToKw pos (keywordEach [⟨some "key", .Lambda params body scope lpos, kpos⟩] X.env)).any (·.1.isNone) = false := by rfl)
    (hks : (backToKw pos (keywordEach [⟨some "key", .Lambda params body scope lpos, kpos⟩] X.env)).filterMap (·.1) = [Str.ofString "key"] := by rfl) :
    PE X (.Call (.Name "min" p0) [e] [⟨some "key", .Lambda params body scope lpos, kpos⟩] pos) (tMinK X.K P lpos ta tb j) := by
  refine ⟨fun pins s σ H Q I h => ?_⟩
  have hfree : ∀ y ∈ scope.names, y.2 = .free → ∃ c, X.env.cells.lookup y.1 = some c := fun y hy e => by
    rcases ok.free y hy e with k | k
    · exact I.ok.has _ (.inl k)
    · exact I.ok.has _ (.inr k)
  refine wpAny_Call_Name_kw (ld_blt I hgl hm hv ?_ (by decide) (by decide))
  refine PyProof.Rows.callWith_kw (thn ((pa_cons ha pa_nil hst).run pos pins s σ H (fun vs H1 => ∃ x, vs = [x] ∧ ∃ l x0 xs ps, x = .ref l ∧ SqL X.K H1 l (x0 :: xs) ∧ H1 P = some (.tbl ps) ∧ TriplesOk ps.toList ∧ (∀ (pos : Pos) (cv : Value), codeAmong pos ps.toList = some cv → ∃ c q, cv = .ref c ∧ H1 c = some (LamX.CodeO c q)) ∧
    ∀ H2 c' q, Grown P ps H1 H2 → H2 c' = some (LamX.CodeO c' q) → (∃ ps2 : Array Value, H2 P = some (.tbl ps2) ∧ codeAmong lpos ps2.toList = some (.ref c')) → ∃ W : Nat → V → Int → Hp → Prop, SqL X.K H2 l (x0 :: xs) ∧
      (tb ((L2.wipe σ [j]).set j (some x0)) H2 fun y H' => ∃ k, y = .int k ∧ W 1 x0 k H') ∧ (∀ i b k H, W i b k H → SqL X.K H l (x0 :: xs) ∧ H c' = some (LamX.CodeO c' q)) ∧
      (∀ i b kb H x, W i b kb H → (x0 :: xs)[i]? = some x → tb ((L2.wipe σ [j]).set j (some x)) H fun y H' => ∃ k, y = .int k ∧ (if k < kb then W (i + 1) x k H' else W (i + 1) b kb H')) ∧
      ∀ b kb H, W (xs.length + 1) b kb H → Q b H) I (hmono σ H _ _ h fun x H1 q => ⟨x, rfl, q⟩)) fun us s1 ⟨vs, H1, I1, r1, x, ev, l, x0, xs, ps, ex, hl, hP, htr, hcd, q1⟩ => ?_) he hpl hall hnone
  subst ev ex
  obtain ⟨u, rfl, ru⟩ := vals1 r1
  cases ru
  rw [hks]
  show wpAny _ _ (evalAll ((do let v ← eval (.Lambda params body scope lpos) X.env; standAt pos; pure v) :: (backToKw pos (keywordEach [] X.env)).map (·.2))) _ _ s1
  refine wpAny_evalAll_cons (wpAny_bind (lam_mk I1 TB hcode hP htr hcd hdef hfree fun f c' q pm ctv H2 s2 I2 hG hf hfn hfa hco hpos => wpAny_bind (wpAny_standAt (wpAny_pure ?_))))
  refine wpAny_evalAll_nil ?_
  obtain ⟨W, w0, w1, w2, w3, w4⟩ := q1 H2 c' q hG hco hpos
  have hfL : f ≠ X.env.locals := Nat.ne_of_gt (Nat.lt_of_lt_of_le I1.lt hfa)
  have I3 : Inv X (pins ++ [(f, PySem.W.kla_obj "<lambda>" (X.env.qual ++ "<lambda>") params body scope (cloFrom X.env.cells scope.names []) pm c' ctv)]) σ H2 s2 := I2.pins_of fun p hp => by
    rcases List.mem_append.mp hp with z | z
    · exact I2.pin p (List.mem_append_right _ z)
    · rw [List.mem_singleton.mp z]
      exact ⟨hf, hfn, hfL, I1.nofs hfa, fun v q => by cases q⟩
  show wpAny _ _ (call (.builtin "min") [.ref l] [(Str.ofString "key", .ref f)]) _ _ _
  refine thn (call_minK (tk := fun x H R => H c' = some (LamX.CodeO c' q) ∧ tb ((L2.wipe σ [j]).set j (some x)) H R) hc hr.hd I3 (List.mem_append_right _ (List.mem_singleton.mpr rfl)) (fun pl s H x u R hpl I r ht => ?_) w0 ⟨hco, w1⟩ (fun i b k H w => (w2 i b k H w).1) (fun i b kb H x w hx => ⟨(w2 i b kb H w).2, w3 i b kb H x w hx⟩) w4) fun v s' ⟨y, H', I', ry, qy⟩ => ⟨y, H', I'.unpinned, ry, qy⟩
  have hfo := (I.pin _ (List.mem_append_right _ hpl)).1
  exact call_key hr I ok hN r hfo ht.1 (fun u => hbind _ _ _ _ _ u) (hb _ _ _ _ _ _) ht.2
end

/-! ### min with a key -/
def keyG (j : Nat) (mb : M D) (d : D) : M Int := fun w => (setF j d (w.wipe [j])).andThen fun _ => mb.bnd fun y => match y with
  | .int k => M.ret k
  | _ => M.no
def minL (key : D → M Int) : D → Int → List D → M D
  | b, _, [] => M.ret b
  | b, kb, d :: ds => (key d).bnd fun k => if k < kb then minL key d k ds else minL key b kb ds
def minN (key : D → M Int) : D → M D
  | .lst (d :: ds) => (key d).bnd fun k => minL key d k ds
  | _ => M.no
def eMinK (j : Nat) (mi : M D) (mb : M D) : M D := mi.bnd fun v => fun w1 => if noOwn [j] w1.sl = true then (match minN (keyG j mb) v w1 with
    | .ok r w => .ok r (w.back [j] w1)
    | _ => .bad) else .bad
section
variable {X : Cx} {Γ : Fr} {me : M D}
theorem wipe_wipe (σ : L2.St) (vs : List Nat) : L2.wipe (L2.wipe σ vs) vs = L2.wipe σ vs := by
  apply List.ext_getElem?
  intro j
  by_cases hj : j ∈ vs
  · rw [wipe_in hj, wipe_in hj, wipe_length]
  · rw [wipe_out hj]
/-- one key -/
theorem key_den {w w' : W} {ι : List Addr} {F : Hp} {σ : L2.St} {H : Hp} {x : V} {d : D} {j : Nat} {mb : M D} {k : Int} {Q : V → Hp → Prop} (S : SR Γ.qt (w.wipe [j]) ι F (L2.wipe σ [j]) H) (r : Rp Γ.toGm ι F d x) (hk : keyG j mb d w = .ok k w')
    (q : ∀ ι' F' H', SR Γ.qt (w'.wipe [j]) ι' F' (L2.wipe σ [j]) H' → Le ι F ι' F' → Q (.int k) H') : gEl Γ mb ((L2.wipe σ [j]).set j (some x)) H Q := by
  obtain ⟨_, w1, e1, h2⟩ := andThen_inv (show (setF j d (w.wipe [j])).andThen _ = _ from hk)
  unfold setF at e1
  split at e1
  · rename_i hj
    cases e1
    obtain ⟨y, w2, e2, h3⟩ := andThen_inv (show (mb _).andThen _ = _ from h2)
    refine ⟨Γ.qt, ⟨rfl, fun _ _ h => h⟩, _, ι, F, S.setF hj r, ?_⟩
    rw [e2]
    intro ι' F' H' v S' l' r'
    cases y with
    | int k' =>
      cases h3
      cases r'
      have S2 := S'.wipe [j]
      have hjl : j < (L2.wipe σ [j]).length := by rw [← S.slen]; exact hj
      have we : L2.wipe ((L2.wipe σ [j]).set j (some x)) [j] = L2.wipe σ [j] := wipe_eq (ks := [j]) (fun _ h => h) (by rw [List.length_set]) fun i hi => by
        rw [List.getElem?_set_ne (fun z => hi (by simp [z]))]
      rw [we] at S2
      exact q ι' F' H' S2 l'
    | _ => cases h3
  · cases e1
theorem minK_go {P : Addr} {lpos : Pos} {j : Nat} {mb : M D} {σ : L2.St} {H : Hp} {Q : VK} {K : PySem.W.Frag} (hP : P ∈ Γ.T) (h : tD Γ (eMinK j me mb) σ H Q) : tMinK K P lpos (tD Γ me) (gEl Γ mb) j σ H Q := by
  obtain ⟨w, ι, F, S, h⟩ := h
  refine ⟨w, ι, F, S, (RR.bnd h).mono fun v w1 h1 => ?_⟩
  intro ι1 F1 H1 x S1 l1 r1
  have h1 : RR Γ (if noOwn [j] w1.sl = true then (match minN (keyG j mb) v w1 with
    | .ok r w => .ok r (w.back [j] w1)
    | _ => .bad) else .bad) (Po Γ ι F σ Q) := h1
  split at h1
  · rename_i no
    cases e : minN (keyG j mb) v w1 with
    | bad => rw [e] at h1; exact h1.elim
    | exc y w => rw [e] at h1; exact h1.elim
    | ok r wE =>
      rw [e] at h1
      have q : Po Γ ι F σ Q r (wE.back [j] w1) := h1
      unfold minN at e
      split at e
      · rename_i d0 ds
        obtain ⟨l, vs, rfl, hF, hl⟩ := r1
        obtain ⟨x0, xs, rfl, r0, rs⟩ := hl
        obtain ⟨ps, hp, tr, tc⟩ := S1.tab P hP
        refine ⟨l, x0, xs, ps, rfl, .inl (.inl (S1.sub.ex hF)), hp, tr, fun pos cv hcv => ?_, fun H2 c' qn hG hco hpos => ?_⟩
        · obtain ⟨c, q, e1, _, e3⟩ := tc pos cv hcv
          exact ⟨c, q, e1, e3⟩
        obtain ⟨F2, S2, l2⟩ := S1.grown hP hp hG
        have hFc : F2 c' = some (LamX.CodeO c' qn) := by
          obtain ⟨ps2, hp2, hc2⟩ := hpos
          obtain ⟨ps3, hp3, _, tc3⟩ := S2.tab P hP
          rw [hp2] at hp3
          cases hp3
          obtain ⟨c, q, e1, e2, e3⟩ := tc3 _ _ hc2
          cases e1
          rw [hco] at e3
          rw [e2, ← e3]
        obtain ⟨k0, wA, eA, eB⟩ := andThen_inv (show (keyG j mb d0 w1).andThen _ = _ from e)
        refine ⟨fun i b kb H' => 1 ≤ i ∧ ∃ w ι' F' d, SR Γ.qt (w.wipe [j]) ι' F' (L2.wipe σ [j]) H' ∧ Le ι1 F2 ι' F' ∧ Rp Γ.toGm ι' F' d b ∧ minL (keyG j mb) d kb (ds.drop (i - 1)) w = .ok r wE, ?_, ?_, ?_, ?_, ?_⟩
        · exact .inl (.inl (S2.sub.ex (l2.fo _ _ hF)))
        · refine key_den (S2.qt.wipe [j]) (Rp.mono l2 _ _ r0) eA fun ι' F' H' S' l' => ⟨k0, rfl, Nat.le_refl _, wA, ι', F', d0, S', l', Rp.mono (l2.trans l') _ _ r0, eB⟩
        · rintro i b kb H' ⟨_, w, ι', F', d, S', l', _⟩
          exact ⟨.inl (.inl (S'.sub.ex (l'.fo _ _ (l2.fo _ _ hF)))), S'.sub.code (l'.fo _ _ hFc)⟩
        · rintro i b kb H' x ⟨hi, w, ι', F', d, S', l', rd, hL⟩ hx
          obtain ⟨i, rfl⟩ : ∃ i', i = i' + 1 := ⟨i - 1, by omega⟩
          obtain ⟨dx, hdx, rx⟩ := rs.getV (show xs[i]? = some x from by simpa using hx)
          obtain ⟨hlt, hdx'⟩ := List.getElem?_eq_some_iff.mp hdx
          rw [show i + 1 - 1 = i from rfl, List.drop_eq_getElem_cons hlt, hdx'] at hL
          obtain ⟨k, wB, eK, hL⟩ := andThen_inv (show (keyG j mb dx w).andThen _ = _ from hL)
          refine key_den S' (Rp.mono (l2.trans l') _ _ rx) eK fun ι2 F3 H3 S3 l3 => ⟨k, rfl, ?_⟩
          split
          · rename_i hk
            have hL : (if k < kb then minL (keyG j mb) dx k (ds.drop (i + 1)) else minL (keyG j mb) d kb (ds.drop (i + 1))) wB = .ok r wE := hL
            rw [if_pos hk] at hL
            exact ⟨by omega, wB, ι2, F3, dx, S3, l'.trans l3, Rp.mono (l2.trans (l'.trans l3)) _ _ rx, hL⟩
          · rename_i hk
            have hL : (if k < kb then minL (keyG j mb) dx k (ds.drop (i + 1)) else minL (keyG j mb) d kb (ds.drop (i + 1))) wB = .ok r wE := hL
            rw [if_neg hk] at hL
            exact ⟨by omega, wB, ι2, F3, d, S3, l'.trans l3, Rp.mono l3 _ _ rd, hL⟩
        · rintro b kb H' ⟨_, w, ι', F', d, S', l', rd, hL⟩
          rw [show xs.length + 1 - 1 = ds.length from rs.length, List.drop_length] at hL
          cases hL
          exact q ι' F' H' b (S'.unqt.back S1 (l2.trans l') no) (l1.trans (l2.trans l')) rd
      · cases e
  · exact h1.elim
theorem tD.mono {Γ : Fr} {m : M D} {σ : L2.St} {H : Hp} {Q Q' : VK} (h : tD Γ m σ H Q) (k : ∀ x H1, Q x H1 → Q' x H1) : tD Γ m σ H Q' := by
  obtain ⟨w, ι, F, S, h⟩ := h
  exact ⟨w, ι, F, S, h.mono fun d w1 q ι' F' H' v S' l r => k _ _ (q ι' F' H' v S' l r)⟩
theorem de_minKey {e body : Expr} {params : Arguments} {scope : Scope} {pp : Str} {j k : Nat} {p0 pos kpos lpos : Pos} {mb : M D} (hc : X.calm = true) (hr : Room k X.A) (hN : X.N.Nodup) (hgl : Gl X "min") (hm : X.mg "min" = none) (hv : bootBuiltins "min" = some (.builtin "min")) (hT : HasTab X Γ)
    (ok : LamOk X.N X.env.scope scope pp j) (ha : DE X Γ e me)
    (hb : ∀ (s : Shared) (H : Hp) (q : Str) (L f c' : Addr) (Γ' : Fr), Inn Γ' Γ → DE (lamX X s H scope q L f c') Γ' body mb)
    (hdef : defaultsOf params X.env = ([], []) := by rfl)
    (hbind : ∀ (qq : Str) (clos : List (Str × Addr)) (pm ctv : Value) (c' : Addr) (u : Value), bindArgs (PySem.W.kla_fn "<lambda>" qq params body scope clos pm (.ref c') ctv) ⟨[u], []⟩ = pure [(pp, u)] := by intro _ _ _ _ _ _; rfl)
    (hst : starEach [e] X.env = (false, eval e X.env) :: starEach [] X.env := by rfl)
    (he : backTo pos (starEach [e] X.env) = (false, eval e X.env) :: backTo pos (starEach [] X.env) := by rfl) (hpl : (backTo pos (starEach [e] X.env)).any (·.1) = false := by rfl)
    (hall : (backToKw pos (keywordEach [⟨some "key", .Lambda params body scope lpos, kpos⟩] X.env)).all (·.1.isSome) = true := by rfl) (hnone : (backToKw pos (keywordEach [⟨some "key", .Lambda params body scope lpos, kpos⟩] X.env)).any (·.1.isNone) = false := by rfl)
    (hks : (backToKw pos (keywordEach [⟨some "key", .Lambda params body scope lpos, kpos⟩] X.env)).filterMap (·.1) = [Str.ofString "key"] := by rfl) :
    DE X Γ (.Call (.Name "min" p0) [e] [⟨some "key", .Lambda params body scope lpos, kpos⟩] pos) (eMinK j me mb) := by
  obtain ⟨c, P, TB, hcode, hP⟩ := hT
  exact ⟨(pe_minK hc hr hN hgl hm hv TB hcode ok ha.pe hdef hbind (fun s H q L f c' => pe_all (hb s H q L f c')) (fun σ H Q Q' h k => tD.mono h k) hst he hpl hall hnone hks).imp fun σ H Q h => minK_go hP h⟩
end
end Dl


set_option Elab.async false
set_option linter.all false
set_option maxRecDepth 100000
set_option maxHeartbeats 4000000
namespace Dl
open PySem PySem.Spec PyProof.Rows L2

section
variable {X : Cx} {Γ : Fr} {a b c e : Expr} {ma mb mc me : M D} {pos : Pos} {es : List Expr} {ml : M (List D)}
/-- a statement that is never reached -/
theorem ds_no {st : Stmt} : DS X Γ st M.no := ⟨⟨fun pins s σ H D I h => by
  obtain ⟨w, ι, F, S, h⟩ := h
  exact h.elim⟩⟩
/-- a name's truth, looked at -/
def truN : D → M Bool
  | .tup ds => M.ret (!ds.isEmpty)
  | .lst ds => M.ret (!ds.isEmpty)
  | _ => M.no
theorem dt_valP (ha : DP X Γ a ma) (he : ∀ whole, isTrue a X.env whole = (do let v ← whole; standAt a.pos; holding [v] (truthy v)) := by intro _; rfl) : DT X Γ a (ma.bnd truN) :=
  ⟨(pt_truth ha.pe he).imp fun σ H Q ⟨w, ι, F, S, h⟩ => ⟨w, ι, F, S, (RR.bnd h).mono fun x w1 h1 => by
    intro ι1 F1 H1 v1 S1 l1 r1
    unfold truN at h1
    split at h1
    · obtain ⟨p, vs, rfl, h3, h2⟩ := r1
      exact ⟨_, .inr (.inl ⟨vs, .inl (.inl h3), by rw [isEmpty_len h2.length]⟩), h1 ι1 F1 H1 S1 l1⟩
    · obtain ⟨p, vs, rfl, h3, h2⟩ := r1
      exact ⟨_, .inl ⟨vs, .inl (.inl h3), by rw [isEmpty_len h2.length]⟩, h1 ι1 F1 H1 S1 l1⟩
    · exact h1.elim⟩⟩
/-- int += int, int += bool -/
def addI : D → D → M D
  | .int i, .int j => M.ret (.int (i + j))
  | .int i, .bl b => M.ret (.int (i + b2i b))
  | _, _ => M.no
theorem iop_add_ib : OpR X (inplaceOp .Add) (fun x y H Q => ∃ i k, x = .int i ∧ y = .bl k ∧ Q (.int (i + b2i k)) H) := by
  intro pins s σ H x y v u Q I rx ry h
  obtain ⟨i, k, rfl, rfl, q⟩ := h
  obtain ⟨t, rfl⟩ := rx
  cases ry
  exact iadd_int_bool ⟨.int (i + b2i k), H, I.tok _, ⟨_, rfl⟩, q⟩
theorem opd_addIB : OpD Γ (fun x y H Q => rI0 (fun i j => .int (i + j)) x y H Q ∨ ∃ i k, x = .int i ∧ y = .bl k ∧ Q (.int (i + b2i k)) H) addI := by
  intro w ι F σ H x y vx vy Q S rx ry h
  unfold addI at h
  split at h
  · cases rx; cases ry
    exact .inl ⟨_, _, rfl, rfl, S.po h rfl⟩
  · cases rx; cases ry
    exact .inr ⟨_, _, rfl, rfl, S.po h rfl⟩
  · exact h.elim
theorem iop_addI : OpR X (inplaceOp .Add) (fun x y H Q => rI0 (fun i j => .int (i + j)) x y H Q ∨ ∃ i k, x = .int i ∧ y = .bl k ∧ Q (.int (i + b2i k)) H) := iop_add.or iop_add_ib
def min3F : List D → M D
  | [.int i, .int j, .int k] => M.ret (.int (if k < (if j < i then j else i) then k else (if j < i then j else i)))
  | _ => M.no
theorem three_of {g : Gm} {ι : List Addr} {F : Hp} {x y z : D} {vs : List V} (r : RpL g ι F [x, y, z] vs) : ∃ u v w, vs = [u, v, w] ∧ Rp g ι F x u ∧ Rp g ι F y v ∧ Rp g ι F z w := by
  obtain ⟨u, r1, rfl, h1, v, r2, rfl, h2, w, r3, rfl, h3, h4⟩ := r
  cases h4
  exact ⟨u, v, w, rfl, h1, h2, h3⟩
theorem min2_ints (i j : Int) : nuMin2 (.int i) (.int j) = some (.int (if j < i then j else i)) := by
  unfold nuMin2 nuLt nuCB
  by_cases h : j < i <;> simp [h]
theorem de_min3 {p : Pos} (hc : X.calm = true) (hg : Gl X "min") (hm : X.mg "min" = none) (hv : bootBuiltins "min" = some (.builtin "min")) (ha : DA X Γ (e :: es) ml) (hs : starEach (e :: es) X.env = (false, eval e X.env) :: starEach es X.env := by rfl) (hpl : (backTo pos (starEach es X.env)).any (·.1) = false := by rfl) : DE X Γ (.Call (.Name "min" p) (e :: es) [] pos) (ml.bnd min3F) :=
  de_callB (call_min3Nu hc) (by
    intro w ι F σ H xs vs Q S r h
    unfold min3F at h
    split at h
    · obtain ⟨u, v, z, rfl, r1, r2, r3⟩ := three_of r
      cases r1; cases r2; cases r3
      refine ⟨_, _, _, _, rfl, ?_, S.po h rfl⟩
      unfold nuMin3
      rw [min2_ints]
      exact min2_ints _ _
    · exact h.elim) hg hm hv ha (he := hs) (hpl := hpl)

/-! ### a, b = x, y, each one new or not -/
def Fr.hold (Γ : Fr) (p : Addr) (o : HO) : Fr := { Γ with hid := (p, o) :: Γ.hid }
theorem SR.hold {w : W} {ι : List Addr} {F : Hp} {σ : L2.St} {H : Hp} (S : SR Γ w ι F σ H) {p : Addr} {d : D} {o : HO} (ow : Ow Γ w ι F σ H p d) (e : H p = some o) : SR (Γ.hold p o) w ι F σ H := by
  refine { S with hid := fun q hq => ?_ }
  rcases List.mem_cons.mp hq with z | z
  · rw [z]
    refine ⟨e, ow.f, ow.i, ow.o, fun ps z => ?_⟩
    obtain ⟨u, h1, h2⟩ := ow.r.some
    rw [e] at h1
    exact h2 ps ((Option.some.inj h1).symm.trans z)
  · exact S.hid q z
theorem SR.unhold {w : W} {ι : List Addr} {F : Hp} {σ : L2.St} {H : Hp} {p : Addr} {o : HO} (S : SR (Γ.hold p o) w ι F σ H) : SR Γ w ι F σ H := { S with hid := fun q hq => S.hid q (List.mem_cons_of_mem _ hq) }
theorem Ok.hold (h : Ok X Γ) (p : Addr) (o : HO) : Ok X (Γ.hold p o) := ⟨h.w, h.K, h.tk.imp fun cls d σ H ⟨x, w, ι, F, S, er, q⟩ => ⟨x, w, ι, F, S.unhold, er, q⟩⟩
theorem Ow.keep {w w' : W} {ι ι' : List Addr} {F F' : Hp} {σ : L2.St} {H H' : Hp} {p : Addr} {d : D} {o : HO} (ow : Ow Γ w ι F σ H p d) (e : H p = some o) (l : Le ι F ι' F') (S : SR (Γ.hold p o) w' ι' F' σ H') : Ow Γ w' ι' F' σ H' p d := by
  obtain ⟨q1, q2, q3, q4, q5⟩ := S.hid (p, o) (List.mem_cons_self ..)
  refine ⟨q2, ow.h0, q3, ?_, q4, ow.h⟩
  have r := ow.r
  cases d with
  | lst ds =>
    obtain ⟨vs, z1, z2⟩ := r
    rw [e] at z1
    cases z1
    exact ⟨vs, q1, RpL.mono l _ _ z2⟩
  | dct t ks =>
    obtain ⟨u, vs, z1, z2, z3⟩ := r
    rw [e] at z1
    cases z1
    exact ⟨o, vs, q1, z2, RpK.mono l _ _ z3⟩
  | _ => exact r.elim
/-- a value that is new (k) or not -/
def Itm (k : Bool) (Γ : Fr) (w : W) (ι : List Addr) (F : Hp) (σ : L2.St) (H : Hp) (d : D) (v : V) : Prop := match k with
  | true => ∃ p, v = .ref p ∧ Ow Γ w ι F σ H p d
  | false => Rp Γ.toGm ι F d v
structure DX (k : Bool) (X : Cx) (Γ : Fr) (e : Expr) (m : M D) : Prop where
  pe : PE X e fun σ H Q => ∃ w ι F, SR Γ w ι F σ H ∧ RR Γ (m w) fun d w' => ∀ ι' F' H' v, SR Γ w' ι' F' σ H' → Le ι F ι' F' → Itm k Γ w' ι' F' σ H' d v → Q v H'
theorem DE.dx (h : DE X Γ e me) : DX false X Γ e me := ⟨h.pe⟩
theorem DN.dx (h : DN X Γ e me) : DX true X Γ e me := ⟨h.pe.imp fun σ H Q ⟨w, ι, F, S, h⟩ => ⟨w, ι, F, S, h.mono fun d w1 q ι' F' H' p S' l o => q ι' F' H' (.ref p) S' l ⟨p, rfl, o⟩⟩⟩
def setK (k : Bool) (i : Nat) (d : D) : M Unit := if k = true then setO i d else setF i d
def sPair (k1 k2 : Bool) (i j : Nat) (ma mb : M D) : M Fl := ma.bnd fun x => mb.bnd fun y => (setK k1 i x).bnd fun _ => (setK k2 j y).bnd fun _ => M.ret .nx
/-- two values, the first one held while the second one is made -/
def tPr (Γ : Fr) (k1 k2 : Bool) (ma mb : M D) : TA := fun σ H R => ∃ w ι F, SR Γ w ι F σ H ∧ RR Γ (ma w) fun x w1 => RR Γ (mb w1) fun y w2 =>
  ∀ ι' F' H' v u, SR Γ w2 ι' F' σ H' → Le ι F ι' F' → Itm k1 Γ w2 ι' F' σ H' x v → Itm k2 Γ w2 ι' F' σ H' y u → (k1 = true → k2 = true → v ≠ u) → R [v, u] H'
theorem pa_pair {k1 k2 : Bool} (o : Ok X Γ) (ha : DX k1 X Γ a ma) (hb : ∀ Γ' : Fr, Γ'.toGm = Γ.toGm → Ok X Γ' → DX k2 X Γ' b mb)
    (hsa : starEach [a, b] X.env = (false, eval a X.env) :: starEach [b] X.env := by rfl) (hsb : starEach [b] X.env = (false, eval b X.env) :: starEach [] X.env := by rfl) : PA X [a, b] (tPr Γ k1 k2 ma mb) := by
  have hB : PE X b fun σ H Q => ∃ Γ' : Fr, Γ'.toGm = Γ.toGm ∧ Ok X Γ' ∧ ∃ w ι F, SR Γ' w ι F σ H ∧ RR Γ' (mb w) fun d w' => ∀ ι' F' H' v, SR Γ' w' ι' F' σ H' → Le ι F ι' F' → Itm k2 Γ' w' ι' F' σ H' d v → Q v H' :=
    ⟨fun pins s σ H Q I ⟨Γ', e1, e2, q⟩ => (hb Γ' e1 e2).pe.run pins s σ H Q I q⟩
  refine (pa_cons ha.pe (pa_cons hB pa_nil hsb) hsa).imp fun σ H R ⟨w, ι, F, S, h⟩ => ?_
  refine ⟨w, ι, F, S, h.mono fun x w1 h1 => ?_⟩
  intro ι1 F1 H1 v S1 l1 i1
  cases k1 with
  | false =>
    refine ⟨Γ, rfl, o, w1, ι1, F1, S1, RR.mono h1 fun y w2 h2 => ?_⟩
    intro ι2 F2 H2 u S2 l2 i2
    exact h2 ι2 F2 H2 v u S2 (l1.trans l2) (Rp.mono l2 _ _ i1) i2 (fun z => absurd z Bool.false_ne_true)
  | true =>
    obtain ⟨p, rfl, ow⟩ := i1
    obtain ⟨u0, hu0, _⟩ := ow.r.some
    refine ⟨Γ.hold p u0, rfl, o.hold p u0, w1, ι1, F1, S1.hold ow hu0, (show RR Γ (mb w1) _ from RR.mono h1 fun y w2 h2 => ?_)⟩
    intro ι2 F2 H2 u S2 l2 i2
    refine h2 ι2 F2 H2 _ u S2.unhold (l1.trans l2) ⟨p, rfl, ow.keep hu0 l2 S2⟩ ?_ fun _ hk2 => ?_
    · cases k2 with
      | false => exact i2
      | true =>
        obtain ⟨p2, rfl, o2⟩ := i2
        exact ⟨p2, rfl, o2.f, o2.h0, o2.i, o2.r, o2.o, fun q hq => o2.h q (List.mem_cons_of_mem _ hq)⟩
    · subst hk2
      obtain ⟨p2, rfl, o2⟩ := i2
      intro z
      exact o2.h (p, u0) (List.mem_cons_self ..) (by cases z; rfl)
theorem Ow.setO {w : W} {ι : List Addr} {F : Hp} {σ : L2.St} {H : Hp} {p p' : Addr} {d d' : D} {i : Nat} (o : Ow Γ w ι F σ H p d) (hl : w.sl.length = σ.length) (hi : i < w.sl.length) (hp : p' ≠ p) : Ow Γ { w with sl := w.sl.set i (some (true, d')) } ι F (σ.set i (some (.ref p'))) H p d :=
  ⟨o.f, o.h0, o.i, o.r, fun j e' h z => by
    have h : (w.sl.set i (some (true, d')))[j]? = some (some (true, e')) := h
    by_cases hj : j = i
    · subst hj
      rw [List.getElem?_set_self (by rw [← hl]; exact hi)] at z
      cases z
      exact hp rfl
    · rw [List.getElem?_set_ne (Ne.symm hj)] at h z
      exact o.o j e' h z, o.h⟩
theorem pair_set {k1 k2 : Bool} {w : W} {ι : List Addr} {F : Hp} {σ : L2.St} {H : Hp} {i j : Nat} {x y : D} {v u : V} {k : Unit → W → Prop} {K : Fl → W → Prop} (S : SR Γ w ι F σ H) (i1 : Itm k1 Γ w ι F σ H x v) (i2 : Itm k2 Γ w ι F σ H y u) (ne : k1 = true → k2 = true → v ≠ u)
    (h : RR Γ ((((setK k1 i x).bnd fun _ => (setK k2 j y).bnd fun _ => M.ret Fl.nx) : M Fl) w) K) : ∃ w', SR Γ w' ι F ((σ.set i (some v)).set j (some u)) H ∧ K .nx w' := by
  have h2 := RR.bnd (show RR Γ ((setK k1 i x w).andThen _) _ from h)
  have fin : ∀ {w1 : W} {σ1 : L2.St}, SR Γ w1 ι F σ1 H → Itm k2 Γ w1 ι F σ1 H y u → RR Γ ((((setK k2 j y).bnd fun _ => M.ret Fl.nx) : M Fl) w1) K → ∃ w', SR Γ w' ι F (σ1.set j (some u)) H ∧ K .nx w' := fun {w1 σ1} S1 i2 h3 => by
    have h4 := RR.bnd (show RR Γ ((setK k2 j y w1).andThen _) _ from h3)
    cases k2 with
    | false =>
      have h4 : RR Γ (setF j y w1) _ := h4
      unfold setF at h4
      split at h4
      · exact ⟨_, S1.setF (by assumption) i2, h4⟩
      · exact h4.elim
    | true =>
      have h4 : RR Γ (Dl.setO j y w1) _ := h4
      unfold Dl.setO at h4
      obtain ⟨p, rfl, o⟩ := i2
      split at h4
      · exact ⟨_, S1.setO (by assumption) o, h4⟩
      · exact h4.elim
  cases k1 with
  | false =>
    have h2 : RR Γ (setF i x w) _ := h2
    unfold setF at h2
    split at h2
    · rename_i hi
      refine fin (S.setF hi i1) ?_ h2
      cases k2 with
      | false => exact i2
      | true =>
        obtain ⟨p, rfl, o⟩ := i2
        exact ⟨p, rfl, o.setF S.slen hi⟩
    · exact h2.elim
  | true =>
    have h2 : RR Γ (Dl.setO i x w) _ := h2
    unfold Dl.setO at h2
    obtain ⟨p, rfl, o1⟩ := i1
    split at h2
    · rename_i hi
      refine fin (S.setO hi o1) ?_ h2
      cases k2 with
      | false => exact i2
      | true =>
        obtain ⟨p2, rfl, o⟩ := i2
        exact ⟨p2, rfl, o.setO S.slen hi fun z => ne rfl rfl (by rw [z])⟩
    · exact h2.elim
/-- plain local names -/
theorem ds_pair {k1 k2 : Bool} {i j : Nat} {x y : Str} {px py pt : Pos} {kt k2' pt2} (o : Ok X Γ) (hc : X.calm = true) (hN : X.N.Nodup) (hi : X.N[i]? = some x) (hj : X.N[j]? = some y) (hij : i ≠ j)
    (hx : X.env.scope.names.lookup x = some .local) (hy : X.env.scope.names.lookup y = some .local) (ha : DX k1 X Γ a ma) (hb : ∀ Γ' : Fr, Γ'.toGm = Γ.toGm → Ok X Γ' → DX k2 X Γ' b mb)
    (hw : swappedStores [.Tuple [.Name x px, .Name y py] kt pt] (.Tuple [a, b] k2' pt2) X.env = pure (some [x, y]) := by rfl)
    (hs : swapsWithSole [.Tuple [.Name x px, .Name y py] kt pt] (.Tuple [a, b] k2' pt2) pos.line X.env = pure false := by rfl)
    (hsa : starEach [a, b] X.env = (false, eval a X.env) :: starEach [b] X.env := by rfl) (hsb : starEach [b] X.env = (false, eval b X.env) :: starEach [] X.env := by rfl) :
    DS X Γ (.Assign [.Tuple [.Name x px, .Name y py] kt pt] (.Tuple [a, b] k2' pt2) pos) (sPair k1 k2 i j ma mb) :=
  ⟨(ps_par hc hN hi hj hij hx hy (pa_pair o ha hb hsa hsb) hw hs).imp fun E σ H ⟨w, ι, F, S, h⟩ => ⟨w, ι, F, S, (RR.bnd h).mono fun d w1 h1 => (RR.bnd h1).mono fun d2 w2 h2 => by
    intro ι' F' H' v u S' l i1 i2 ne
    obtain ⟨w', S2, q⟩ := pair_set (k := fun _ _ => True) S' i1 i2 ne h2
    exact ⟨v, u, rfl, (show PoF Γ ι F E .nx w' from q) ι' F' _ H' S2 l⟩⟩⟩
theorem Ow.hide {w : W} {ι : List Addr} {F : Hp} {σ : L2.St} {H : Hp} {p T : Addr} {d : D} {u : HO} (o : Ow Γ w ι F σ H p d) (n : H T = none) : Ow Γ w ι F σ (upd H T u) p d :=
  ⟨o.f, o.h0, o.i, o.r.keep (Le.refl _ _) (fun z q => by rw [upd_ne (ne_of_none q n)]; exact q), o.o, o.h⟩
/-- other names: by a pair that is thrown away -/
theorem ds_pairT {k1 k2 : Bool} {i j : Nat} {x y : Str} {px py pt : Pos} {kt k2' pt2} (o : Ok X Γ) (hc : X.calm = true) (hN : X.N.Nodup) (hi : X.N[i]? = some x) (hj : X.N[j]? = some y) (hx : Loc X.env.scope x) (hy : Loc X.env.scope y) (ha : DX k1 X Γ a ma) (hb : ∀ Γ' : Fr, Γ'.toGm = Γ.toGm → Ok X Γ' → DX k2 X Γ' b mb)
    (hw : swappedStores [.Tuple [.Name x px, .Name y py] kt pt] (.Tuple [a, b] k2' pt2) X.env = pure none := by rfl)
    (hs : swapsWithSole [.Tuple [.Name x px, .Name y py] kt pt] (.Tuple [a, b] k2' pt2) pos.line X.env = pure false := by rfl)
    (h1 : (assignEach [.Tuple [.Name x px, .Name y py] kt pt] X.env).map (·.2) = [assign (.Tuple [.Name x px, .Name y py] kt pt) X.env] := by rfl)
    (hsa : starEach [a, b] X.env = (false, eval a X.env) :: starEach [b] X.env := by rfl) (hsb : starEach [b] X.env = (false, eval b X.env) :: starEach [] X.env := by rfl)
    (hf1 : X.fn x = true ∨ X.env.scope.names.lookup x = some .local := by first | exact .inl rfl | exact .inr rfl) (hf2 : X.fn y = true ∨ X.env.scope.names.lookup y = some .local := by first | exact .inl rfl | exact .inr rfl)
    (hn : (assignEach [.Name x px, .Name y py] X.env).length = 2 := by rfl) (hst : (assignEach [.Name x px, .Name y py] X.env).findIdx? (·.1) = none := by rfl)
    (hs1 : (assignEach [.Name x px, .Name y py] X.env).map (·.2) = assign (.Name x px) X.env :: (assignEach [.Name y py] X.env).map (·.2) := by rfl)
    (hs2 : (assignEach [.Name y py] X.env).map (·.2) = assign (.Name y py) X.env :: (assignEach [] X.env).map (·.2) := by rfl) :
    DS X Γ (.Assign [.Tuple [.Name x px, .Name y py] kt pt] (.Tuple [a, b] k2' pt2) pos) (sPair k1 k2 i j ma mb) :=
  ⟨(ps_asg (pe_tup (pa_pair o ha hb hsa hsb)) (pg_tup hc (pgs_cons (pg_name hN hi hx hf1) (pgs_cons (pg_name hN hj hy hf2) pgs_nil hs2) hs1) hn hst) hs hw h1).imp fun E σ H ⟨w, ι, F, S, h⟩ => ⟨w, ι, F, S, (RR.bnd h).mono fun d w1 h1 => (RR.bnd h1).mono fun d2 w2 h2 => by
    intro ι' F' H' v u S' l i1 i2 ne
    refine ⟨by show 2 ≤ sizeLine; decide, fun T hT => ?_⟩
    have hide : ∀ {k : Bool} {d : D} {v : V} {u : HO}, Itm k Γ w2 ι' F' σ H' d v → Itm k Γ w2 ι' F' σ (upd H' T u) d v := fun {k d v u} i => by
      cases k with
      | false => exact i
      | true =>
        obtain ⟨p, e, o⟩ := i
        exact ⟨p, e, o.hide hT⟩
    obtain ⟨w', S2, q⟩ := pair_set (k := fun _ _ => True) (S'.hide (o := .tup [v, u]) hT) (hide i1) (hide i2) ne h2
    exact ⟨T, [v, u], rfl, .inl (.inl upd_same), rfl, v, [u], rfl, u, [], rfl, rfl, (show PoF Γ ι F E .nx w' from q) ι' F' _ _ S2 l⟩⟩⟩
/-- three plain names -/
def sPar3 (i j l : Nat) (ma mb mc : M D) : M Fl := ma.bnd fun x => mb.bnd fun y => mc.bnd fun z => (setF i x).bnd fun _ => (setF j y).bnd fun _ => (setF l z).bnd fun _ => M.ret .nx
theorem setF_inv {i : Nat} {d : D} {w : W} {f : Unit → M Fl} {k : Fl → W → Prop} (h : RR Γ (((setF i d).bnd f) w) k) : i < w.sl.length ∧ RR Γ (f () { w with sl := w.sl.set i (some (false, d)) }) k := by
  have h : RR Γ ((setF i d w).andThen f) k := h
  unfold setF at h
  split at h
  · exact ⟨by assumption, h⟩
  · exact h.elim
theorem ds_par3 {i j l : Nat} {x y z : Str} {px py pz pt : Pos} {kt k2 pt2} (hc : X.calm = true) (hN : X.N.Nodup) (hi : X.N[i]? = some x) (hj : X.N[j]? = some y) (hl : X.N[l]? = some z) (hij : i ≠ j) (hil : i ≠ l) (hjl : j ≠ l)
    (hx : X.env.scope.names.lookup x = some .local) (hy : X.env.scope.names.lookup y = some .local) (hz : X.env.scope.names.lookup z = some .local) (ha : DE X Γ a ma) (hb : DE X Γ b mb) (hc' : DE X Γ c mc)
    (hw : swappedStores [.Tuple [.Name x px, .Name y py, .Name z pz] kt pt] (.Tuple [a, b, c] k2 pt2) X.env = pure (some [x, y, z]) := by rfl)
    (hs : swapsWithSole [.Tuple [.Name x px, .Name y py, .Name z pz] kt pt] (.Tuple [a, b, c] k2 pt2) pos.line X.env = pure false := by rfl)
    (hsa : starEach [a, b, c] X.env = (false, eval a X.env) :: starEach [b, c] X.env := by rfl) (hsb : starEach [b, c] X.env = (false, eval b X.env) :: starEach [c] X.env := by rfl) (hsc : starEach [c] X.env = (false, eval c X.env) :: starEach [] X.env := by rfl) :
    DS X Γ (.Assign [.Tuple [.Name x px, .Name y py, .Name z pz] kt pt] (.Tuple [a, b, c] k2 pt2) pos) (sPar3 i j l ma mb mc) :=
  ⟨(ps_par3 hc hN hi hj hl hij hil hjl hx hy hz (pa_cons ha.pe (pa_cons hb.pe (pa_cons hc'.pe pa_nil hsc) hsb) hsa) hw hs).imp fun E σ H ⟨w, ι, F, S, h⟩ => ⟨w, ι, F, S, (RR.bnd h).mono fun d w1 h1 => by
    intro ι1 F1 H1 v1 S1 l1 r1
    refine ⟨w1, ι1, F1, S1, (RR.bnd h1).mono fun d2 w2 h2 => ?_⟩
    intro ι2 F2 H2 v2 S2 l2 r2
    refine ⟨w2, ι2, F2, S2, (RR.bnd h2).mono fun d3 w3 h3 => ?_⟩
    intro ι3 F3 H3 v3 S3 l3 r3
    obtain ⟨b1, h4⟩ := setF_inv h3
    obtain ⟨b2, h5⟩ := setF_inv h4
    obtain ⟨b3, h6⟩ := setF_inv h5
    exact ⟨v1, v2, v3, rfl, (show PoF Γ ι F E .nx _ from h6) ι3 F3 _ H3 (((S3.setF b1 (Rp.mono (l2.trans l3) _ _ r1)).setF b2 (Rp.mono l3 _ _ r2)).setF b3 r3) (l1.trans (l2.trans l3))⟩⟩⟩
end
end Dl


set_option Elab.async false
set_option linter.all false
set_option maxRecDepth 100000
set_option maxHeartbeats 4000000
namespace Dl
open PySem PySem.Spec PyProof.Rows L2
open GxR (TabB)

section
variable {X : Cx} {Γ Γ' : Fr} {k : Nat}
theorem ok_gen {s : Shared} {H : Hp} {e : Env} {fp : List Addr} {A : Around} {pn : List (Addr × Obj)} (h : Ok X Γ) (hg : Inn Γ' Γ) : Ok (genX X s H e fp A pn) Γ' :=
  ⟨by rw [show Γ'.w = Γ'.toGm.w from rfl, hg.1]; exact h.w, by rw [show Γ'.K = Γ'.toGm.K from rfl, hg.1]; exact h.K, takes0.imp fun cls d σ H ⟨x, w, ι, F, S, e, q⟩ => hg.2 x w q⟩
theorem tab_blk {s : Shared} {H : Hp} {sc : Scope} {C : Addr} {cl : List (Str × Addr)} {fp : List Addr} (h : HasTab X Γ) (hg : Inn Γ' Γ) : HasTab (X.blk s H sc (compEnvC sc cl C X.env) fp) Γ' := by
  obtain ⟨c, P, h1, h2, h3⟩ := h
  exact ⟨c, P, h1, h2, by rw [show Γ'.T = Γ'.toGm.T from rfl, hg.1]; exact h3⟩
theorem room_gen {e : Env} (h : Room (k + 1) X.A) : Room k (X.A.in1.in1.deeper e) :=
  ⟨h.hd, by have := h.dp; show X.A.depth + 1 + 3 * k + 5 < _; omega, by have := h.un; show X.A.units + 1 + 1 + 3 + 16 * k + 200 < _; omega⟩
theorem room_lam {e : Env} (h : Room (k + 1) X.A) : Room k (X.A.in1.deeper e) :=
  ⟨h.hd, by have := h.dp; show X.A.depth + 1 + 3 * k + 5 < _; omega, by have := h.un; show X.A.units + 1 + 3 + 16 * k + 200 < _; omega⟩
theorem hu_room (h : Room k X.A) : X.A.units + 64 < cLine := h.units
end
/-! ### names by their check -/
def genC? (N : List Str) (sc scope : Scope) (own : List (Str × Nat)) : Bool :=
  blkC N sc scope own && !scope.isCoroutine && (scope.names.all fun y => !decide (y.2 = .cell)) && decide (scope.names.lookup (".0" : Str) = some NameKind.local)
theorem genOk_by {N : List Str} {sc scope : Scope} {own : List (Str × Nat)} (h : genC? N sc scope own = true) : GenOk N sc scope own := by
  unfold genC? at h
  simp only [Bool.and_eq_true, Bool.not_eq_true', decide_eq_true_eq, decide_eq_false_iff_not, List.all_eq_true] at h
  obtain ⟨⟨⟨h1, h2⟩, h3⟩, h4⟩ := h
  have b := blkOk_by h1
  exact ⟨b.kind, h2, h3, h4, b.uniq, b.ix, b.free, fun y hy e => b.own y hy (.inl e)⟩
def lamC? (N : List Str) (sc scope : Scope) (p : Str) (j : Nat) : Bool :=
  (match scope.kind with | .function => true | _ => false) && !scope.isCoroutine && !scope.isGenerator && decide (scope.names.lookup p = some .local) && decide (N[j]? = some p) &&
    scope.names.all fun y => match y.2 with
      | .cell => false
      | .local => decide (y.1 = p)
      | .free => (match sc.names.lookup y.1 with | some .cell => true | some .free => true | _ => false)
      | _ => true
theorem lamOk_by {N : List Str} {sc scope : Scope} {p : Str} {j : Nat} (h : lamC? N sc scope p j = true) : LamOk N sc scope p j := by
  unfold lamC? at h
  simp only [Bool.and_eq_true, Bool.not_eq_true', decide_eq_true_eq, List.all_eq_true] at h
  obtain ⟨⟨⟨⟨⟨h1, h2⟩, h3⟩, h4⟩, h5⟩, h6⟩ := h
  refine ⟨?_, h2, h3, fun y hy e => ?_, h4, h5, fun y hy e => ?_, fun y hy e => ?_⟩
  · split at h1
    · assumption
    · cases h1
  · have q := h6 y hy
    rw [e] at q
    cases q
  · have q := h6 y hy
    rw [e] at q
    simp only at q
    split at q <;> first | exact .inl (by assumption) | exact .inr (by assumption) | cases q
  · have q := h6 y hy
    rw [e] at q
    simpa using q

section
variable {P : Program} {w : World} {K : PySem.W.Frag} {mg : Str → Option Value} {base : Heap}
/-- a def's table -/
def Tb (base : Heap) (mg : Str → Option Value) (g : Gm) (fd : FuncData) : Prop := ∃ c P, TabB base mg c P ∧ fd.code = .ref c ∧ P ∈ g.T
/-- THE RULE for a def as the head tells it -/
theorem fn_okD {x qual : Str} {params : Arguments} {body : List Stmt} {scope : Scope} {f : Addr} {fd : FuncData} {N ps : List Str} {k : Nat} {g : Gm} {b : M Fl} {np n : Nat} (F : FunD K x qual params body scope [] [] f fd) (S : FnScope N ps scope) (hn : n = N.length) (hnp : np = ps.length) (hw : w = g.w) (hK : K = g.K)
    (hb : ∀ (cdv : Value) (A : Around) (outer : List Env) (s : Shared) (H : Hp) (E : XK) (Γ : Fr), fd.code = cdv → Room k (A.deeper (envOfC qual scope s.heap.objs.size f cdv)) → Γ.toGm = g → Ok (cxOf (L2.CX P w) P w K mg base N qual scope f cdv A outer s H E) Γ →
      DB (cxOf (L2.CX P w) P w K mg base N qual scope f cdv A outer s H E) Γ body b) : FnOk P w K mg base (L2.CX P w) (k + 1) f fd ps (spD g np n b) := by
  subst hn hnp
  refine ⟨fun vs H Q E h => h.1, ?_⟩
  obtain ⟨oc, od, dV, kV, doc, pm, an, cdv, ct, osl, rfl, lk, hcd, _, _⟩ := F.ex
  refine (fn_of lk hcd S (fun vs H Q E h => h.1) fun A outer s H vs Q E hr h => ?_ : FnOk P w K mg base (L2.CX P w) (k + 1) f _ ps (spD g ps.length N.length b)).run
  obtain ⟨hl, Γ, ds, w0, ι, F0, σ, hg, S0, r, h⟩ := h
  subst hg
  refine ⟨_, (hb cdv A outer s H E (Γ.callee ι F0 H fun x w' => ∀ ι' F' σ' H' cls d, SR (Γ.callee ι F0 H fun _ _ => False) w' ι' F' σ' H' → Er Γ.toGm x cls d H' → E cls d H') rfl hr rfl ⟨hw, hK, (takes_of rfl rfl rfl rfl).imp fun cls d σ H ⟨x, w, ι', F', S', e, q⟩ => q ι' F' σ H cls d (S'.reex _) e⟩).ps, ?_⟩
  refine ⟨⟨args N.length ds, w0.st⟩, ι, F0, (S0.enter _).args r, h.mono fun fl w' q => ?_⟩
  cases fl with
  | nx => exact fun ι' F' σ' H' S' _ => q ι' F' σ' H' (S'.reex _)
  | rt d => exact fun ι' F' σ' H' v S' _ r' => q ι' F' σ' H' v (S'.reex _) r'
  | bk => exact q.elim
  | ct => exact q.elim
theorem tb_of {x qual : Str} {params : Arguments} {body : List Stmt} {scope : Scope} {fd : FuncData} {g : Gm} {p : He.Defn} (F : FunD K x qual params body scope [] [] (He.fAd K p) fd) (hT : TabB base mg (He.cT K p).1 (He.cT K p).2) (hm : (He.cT K p).2 ∈ g.T) : Tb base mg g fd := by
  obtain ⟨oc, od, dV, kV, doc, pm, an, cdv, ct, osl, rfl, lk, hcd, _, _⟩ := F.ex
  obtain ⟨c, rfl⟩ := He.codeIn_ref hcd
  have e : He.codeOf K p = c := He.codeOf_eq lk rfl
  exact ⟨_, _, hT, by show Value.ref c = .ref (He.codeOf K p); rw [e], hm⟩
theorem hasTab_of {N : List Str} {qual : Str} {scope : Scope} {f : Addr} {fd : FuncData} {cdv : Value} {A : Around} {outer : List Env} {s : Shared} {H : Hp} {E : XK} {g : Gm} {Γ : Fr} (t : Tb base mg g fd) (e : fd.code = cdv) (hg : Γ.toGm = g) : HasTab (cxOf (L2.CX P w) P w K mg base N qual scope f cdv A outer s H E) Γ := by
  obtain ⟨c, P', h1, h2, h3⟩ := t
  exact ⟨c, P', h1, by show cdv = _; rw [← e, h2], by rw [show Γ.T = Γ.toGm.T from rfl, hg]; exact h3⟩
/-- the law's promise, by what it computes -/
theorem law_sp {g : Gm} {n : Nat} {b : M Fl} {cs : List (Addr × Addr)} (hT : g.T = cs.map (·.2)) {H : Hp} {a : Addr} {ns : List Int} (hH : ∀ p ∈ cs, H p.2 = some (.tbl #[])) (hS : SqL g.K H a (ns.map V.int)) (hb : ∃ w', b ⟨args n [.scr ns], []⟩ = .ok (.rt (.bl true)) w') :
    spD g 1 n b [.ref a] H (fun v _ => v = .bl true) fun _ _ _ => False := by
  have hF : ∃ F : Hp, Sb F H ∧ ScrAt g.K F a ns ∧ (∀ b ps, F b ≠ some (.tbl ps)) := by
    have one : ∀ u : HO, H a = some u → (∀ ps, u ≠ .tbl ps) → Sb (upd (fun _ => none) a u) H ∧ ∀ b ps, upd (fun _ => none) a u b ≠ some (.tbl ps) := fun u h hu => by
      refine ⟨fun b v e => ?_, fun b ps e => ?_⟩
      · by_cases hb : b = a
        · subst hb; rw [upd_same] at e; cases e; exact .inl h
        · rw [upd_ne hb] at e; cases e
      · by_cases hb : b = a
        · subst hb; rw [upd_same] at e; exact hu ps (Option.some.inj e)
        · rw [upd_ne hb] at e; cases e
    rcases hS with (h | ⟨o, h⟩) | h
    · obtain ⟨h1, h2⟩ := one _ h fun ps z => by cases z
      exact ⟨_, h1, .inl (.inr upd_same), h2⟩
    · obtain ⟨h1, h2⟩ := one _ h fun ps z => by cases z
      exact ⟨_, h1, .inl (.inl ⟨o, upd_same⟩), h2⟩
    · exact ⟨fun _ => none, fun b u e => (by cases e), .inr h, fun b ps e => (by cases e)⟩
  obtain ⟨F, hs, hsc, hnt⟩ := hF
  obtain ⟨w', hb⟩ := hb
  refine ⟨rfl, { toGm := g, F0 := F, H0 := H, ι0 := [], lk := [], ul := true, hid := [], ex := fun _ _ => False }, [.scr ns], ⟨[], []⟩, [], F, [], rfl, ⟨hs, fun a o h => h, fun a o h => .inl h, fun a o h _ _ => .inl h, fun a ps h => ⟨ps, h⟩, fun P hP => ?_, hnt, fun n a h => h, fun a h => .inl h, List.nodup_nil, rfl, fun i d h => by simp at h, fun i d h => by simp at h, fun i j d e a hij h => by simp at h, fun p hp => by simp at hp, rfl, fun n o a h => by simp at h⟩, ⟨.ref a, [], rfl, ⟨a, rfl, hsc⟩, rfl⟩, ?_⟩
  · have hP : P ∈ g.T := hP
    rw [hT] at hP
    obtain ⟨p, hp, rfl⟩ := List.mem_map.mp hP
    exact ⟨#[], hH p hp, True.intro, fun pos cv hc => by simp [codeAmong] at hc⟩
  · rw [hb]
    intro ι' F' σ' H' v S' r
    exact r
end
end Dl


set_option Elab.async false
set_option linter.all false
set_option maxRecDepth 100000
set_option maxHeartbeats 4000000
namespace Dl
open PySem PySem.Spec PyProof.Rows L2
open GxR (TabB)

/-- what is known where a term stands -/
structure Cz (X : Cx) (Γ : Fr) (g : Gm) (k : Nat) : Prop where
  hg : Γ.toGm = g
  o : Ok X Γ
  r : Room k X.A
section
variable {X : Cx} {Γ Γ' : Fr} {g : Gm} {k : Nat}
theorem Cz.blk {s : Shared} {H : Hp} {sc : Scope} {C : Addr} {cl : List (Str × Addr)} {fp : List Addr} (z : Cz X Γ g k) (e : Inn Γ' Γ) : Cz (X.blk s H sc (compEnvC sc cl C X.env) fp) Γ' g k := ⟨e.1.trans z.hg, ok_blk z.o e, z.r⟩
theorem Cz.gen {s : Shared} {H : Hp} {scope : Scope} {cl : List (Str × Addr)} {C : Addr} {code : Value} {bi : Addr} {fp : List Addr} {pn : List (Addr × Obj)} (z : Cz X Γ g (k + 1)) (e : Inn Γ' Γ) : Cz (genC X s H scope cl C code bi fp pn) Γ' g k := ⟨e.1.trans z.hg, ok_gen z.o e, room_gen z.r⟩
theorem Cz.lam {s : Shared} {H : Hp} {scope : Scope} {q : Str} {L f c : Addr} (z : Cz X Γ g (k + 1)) (e : Inn Γ' Γ) : Cz (lamX X s H scope q L f c) Γ' g k := ⟨e.1.trans z.hg, ok_gen z.o e, room_lam z.r⟩
theorem Cz.at_ (z : Cz X Γ g k) (e : Γ'.toGm = Γ.toGm) (o : Ok X Γ') : Cz X Γ' g k := ⟨e.trans z.hg, o, z.r⟩
theorem tab_at (h : HasTab X Γ) (e : Γ'.toGm = Γ.toGm) : HasTab X Γ' := by
  obtain ⟨c, P, h1, h2, h3⟩ := h
  exact ⟨c, P, h1, h2, by rw [show Γ'.T = Γ'.toGm.T from rfl, e]; exact h3⟩
variable {j : Nat} {f : Addr} {fd : FuncData} {ps : List Str} {np n : Nat} {b : M Fl} {x : Str} {p pos : Pos} {e : Expr} {es : List Expr} {ml : M (List D)}
theorem de_callG (F : FnOk X.prog X.w X.K X.mg X.base (L2.CX X.prog X.w) j f fd ps (spD g np n b)) (hG : Γ.toGm = g) (o : Ok X Γ) (hr : Room j X.A) (hm : X.mg x = some (.ref f)) (hk : PySem.W.keepIn X.K (.ref f) = true) (hb : Binds X.K fd ps []) (hl : Len ml np) (hg : Gl X x)
    (ha : DA X Γ (e :: es) ml) (hdb : (x == ("__debug__" : Str)) = false := by decide) (he : starEach (e :: es) X.env = (false, eval e X.env) :: starEach es X.env := by rfl) (hpl : (backTo pos (starEach es X.env)).any (·.1) = false := by rfl) :
    DE X Γ (.Call (.Name x p) (e :: es) [] pos) (ml.bnd (fnD n b)) := by
  subst hG
  exact de_call F o hr hm hk hb hl hg ha hdb he hpl
end
theorem bb_list : bootBuiltins "list" = some (.type "list") := by decide +kernel
theorem bb_tuple : bootBuiltins "tuple" = some (.type "tuple") := by decide +kernel
theorem bb_int : bootBuiltins "int" = some (.type "int") := by decide +kernel
theorem bb_bool : bootBuiltins "bool" = some (.type "bool") := by decide +kernel
theorem bb_str : bootBuiltins "str" = some (.type "str") := by decide +kernel
theorem bb_min : bootBuiltins "min" = some (.builtin "min") := by decide +kernel
theorem bb_max : bootBuiltins "max" = some (.builtin "max") := by decide +kernel
theorem bb_isinstance : bootBuiltins "isinstance" = some (.builtin "isinstance") := by decide +kernel
end Dl


set_option Elab.async false
set_option linter.all false
set_option maxRecDepth 100000
set_option maxHeartbeats 4000000
namespace Dl
open PySem PySem.Spec PyProof.Rows L2
open GxR (TabB)
section
variable {X : Cx} {Γ Γ' : Fr} {g : Gm} {k : Nat} {s : Shared} {H : Hp} {sc : Scope} {cl : List (Str × Addr)} {C : Addr} {code : Value} {bi : Addr} {fp : List Addr} {pn : List (Addr × Obj)} {q : Str} {L f c : Addr}
theorem in_gen_k {tg : Expr} {ks : List Nat} {m : D → M Unit} (z : Cz X Γ g (k + 1)) (i : Inn Γ' Γ) (h : Cz (genC X s H sc cl C code bi fp pn) Γ' g k → DKt (genC X s H sc cl C code bi fp pn) Γ' tg ks m) : DKt (genC X s H sc cl C code bi fp pn) Γ' tg ks m := h (z.gen i)
theorem in_blk_k {tg : Expr} {ks : List Nat} {m : D → M Unit} (z : Cz X Γ g k) (i : Inn Γ' Γ) (h : Cz (X.blk s H sc (compEnvC sc cl C X.env) fp) Γ' g k → DKt (X.blk s H sc (compEnvC sc cl C X.env) fp) Γ' tg ks m) : DKt (X.blk s H sc (compEnvC sc cl C X.env) fp) Γ' tg ks m := h (z.blk i)
theorem in_blt_k {tg : Expr} {ks : List Nat} {m : D → M Unit} (z : Cz X Γ g k) (t : HasTab X Γ) (i : Inn Γ' Γ) (h : Cz (X.blk s H sc (compEnvC sc cl C X.env) fp) Γ' g k → HasTab (X.blk s H sc (compEnvC sc cl C X.env) fp) Γ' → DKt (X.blk s H sc (compEnvC sc cl C X.env) fp) Γ' tg ks m) : DKt (X.blk s H sc (compEnvC sc cl C X.env) fp) Γ' tg ks m := h (z.blk i) (tab_blk t i)
theorem in_gen_c {ifs : List Expr} {m : M Bool} (z : Cz X Γ g (k + 1)) (i : Inn Γ' Γ) (h : Cz (genC X s H sc cl C code bi fp pn) Γ' g k → DC (genC X s H sc cl C code bi fp pn) Γ' ifs m) : DC (genC X s H sc cl C code bi fp pn) Γ' ifs m := h (z.gen i)
theorem in_blk_c {ifs : List Expr} {m : M Bool} (z : Cz X Γ g k) (i : Inn Γ' Γ) (h : Cz (X.blk s H sc (compEnvC sc cl C X.env) fp) Γ' g k → DC (X.blk s H sc (compEnvC sc cl C X.env) fp) Γ' ifs m) : DC (X.blk s H sc (compEnvC sc cl C X.env) fp) Γ' ifs m := h (z.blk i)
theorem in_blt_c {ifs : List Expr} {m : M Bool} (z : Cz X Γ g k) (t : HasTab X Γ) (i : Inn Γ' Γ) (h : Cz (X.blk s H sc (compEnvC sc cl C X.env) fp) Γ' g k → HasTab (X.blk s H sc (compEnvC sc cl C X.env) fp) Γ' → DC (X.blk s H sc (compEnvC sc cl C X.env) fp) Γ' ifs m) : DC (X.blk s H sc (compEnvC sc cl C X.env) fp) Γ' ifs m := h (z.blk i) (tab_blk t i)
theorem in_gen_e {e : Expr} {m : M D} (z : Cz X Γ g (k + 1)) (i : Inn Γ' Γ) (h : Cz (genC X s H sc cl C code bi fp pn) Γ' g k → DE (genC X s H sc cl C code bi fp pn) Γ' e m) : DE (genC X s H sc cl C code bi fp pn) Γ' e m := h (z.gen i)
theorem in_blk_e {e : Expr} {m : M D} (z : Cz X Γ g k) (i : Inn Γ' Γ) (h : Cz (X.blk s H sc (compEnvC sc cl C X.env) fp) Γ' g k → DE (X.blk s H sc (compEnvC sc cl C X.env) fp) Γ' e m) : DE (X.blk s H sc (compEnvC sc cl C X.env) fp) Γ' e m := h (z.blk i)
theorem in_blt_e {e : Expr} {m : M D} (z : Cz X Γ g k) (t : HasTab X Γ) (i : Inn Γ' Γ) (h : Cz (X.blk s H sc (compEnvC sc cl C X.env) fp) Γ' g k → HasTab (X.blk s H sc (compEnvC sc cl C X.env) fp) Γ' → DE (X.blk s H sc (compEnvC sc cl C X.env) fp) Γ' e m) : DE (X.blk s H sc (compEnvC sc cl C X.env) fp) Γ' e m := h (z.blk i) (tab_blk t i)
theorem in_lam_e {e : Expr} {m : M D} (z : Cz X Γ g (k + 1)) (i : Inn Γ' Γ) (h : Cz (lamX X s H sc q L f c) Γ' g k → DE (lamX X s H sc q L f c) Γ' e m) : DE (lamX X s H sc q L f c) Γ' e m := h (z.lam i)
end
section
variable {P : Program} {w : World} {K : PySem.W.Frag} {mg : Str → Option Value} {base : Heap} {N : List Str} {qual : Str} {scope : Scope} {f : Addr} {fd : FuncData} {cdv : Value} {A : Around} {outer : List Env} {s : Shared} {H : Hp} {E : XK} {g : Gm} {Γ : Fr}
theorem passes_o (_ : Ok (cxOf (L2.CX P w) P w K mg base N qual scope f cdv A outer s H E) Γ) : PassesOwn (model (cxOf (L2.CX P w) P w K mg base N qual scope f cdv A outer s H E).prog (cxOf (L2.CX P w) P w K mg base N qual scope f cdv A outer s H E).w) (cxOf (L2.CX P w) P w K mg base N qual scope f cdv A outer s H E).A (cxOf (L2.CX P w) P w K mg base N qual scope f cdv A outer s H E).env (cxOf (L2.CX P w) P w K mg base N qual scope f cdv A outer s H E).xe := passes_of rfl
theorem hasTab_o (_ : Ok (cxOf (L2.CX P w) P w K mg base N qual scope f cdv A outer s H E) Γ) (t : Tb base mg g fd) (e : fd.code = cdv) (hg : Γ.toGm = g) : HasTab (cxOf (L2.CX P w) P w K mg base N qual scope f cdv A outer s H E) Γ := hasTab_of t e hg
end
end Dl


set_option Elab.async false
set_option linter.all false
set_option maxRecDepth 100000
set_option maxHeartbeats 4000000
/-! what denotations compute, in plain words: no program here -/
namespace Dl
open PySem L2

/-! ### slots wiped and put back -/
theorem back_of_wipe : ∀ (vs : List Nat) (i : Nat) (l1 l0 : List (Option (Bool × D))), wipeL vs i l1 = wipeL vs i l0 → backL vs i l0 l1 = l0
  | vs, i, [], [], _ => by simp [backL]
  | vs, i, [], _ :: _, h => by simp [wipeL] at h
  | vs, i, _ :: _, [], h => by simp [wipeL] at h
  | vs, i, b :: l1, a :: l0, h => by
    simp only [wipeL, List.cons.injEq] at h
    simp only [backL, back_of_wipe vs (i + 1) l1 l0 h.2]
    by_cases hc : vs.contains i = true
    · rw [if_pos hc]
    · have h1 := h.1
      rw [if_neg hc, if_neg hc] at h1
      rw [if_neg hc, h1]
theorem W.back_eq {w w' : W} {vs : List Nat} (h : w'.wipe vs = w.wipe vs) : w'.back vs w = w := by
  obtain ⟨sl, st⟩ := w
  obtain ⟨sl', st'⟩ := w'
  simp only [W.wipe, W.mk.injEq] at h
  simp only [W.back, W.mk.injEq]
  exact ⟨back_of_wipe vs 0 sl' sl h.1, h.2⟩
theorem wipe_wipeL : ∀ (vs : List Nat) (i : Nat) (l : List (Option (Bool × D))), wipeL vs i (wipeL vs i l) = wipeL vs i l
  | vs, i, [] => rfl
  | vs, i, a :: l => by
    simp only [wipeL, wipe_wipeL vs (i + 1) l, List.cons.injEq, and_true]
    by_cases hc : vs.contains i = true
    · rw [if_pos hc, if_pos hc]
    · rw [if_neg hc, if_neg hc]
@[simp] theorem W.wipe_wipe (w : W) (vs : List Nat) : (w.wipe vs).wipe vs = w.wipe vs := by
  simp only [W.wipe, wipe_wipeL]
/-! ### comps, all, any, min by a key: over any list of things x standing for data c x -/
section
variable {α : Type} {c : α → D} {vs : List Nat} {as : D → M Unit} {ct : M Bool} {el : M D} {w : W} {p : α → Bool} {g : α → D}
theorem lc_eq : ∀ (l : List α) (w1 : W), (∀ x ∈ l, ∃ w2, as (c x) (w.wipe vs) = .ok () w2 ∧ w2.wipe vs = w.wipe vs ∧ ct w2 = .ok (p x) w2 ∧ (p x = true → el w2 = .ok (g x) w2)) → w1.wipe vs = w.wipe vs →
    ∃ w', w'.wipe vs = w.wipe vs ∧ lcL vs as ct el (l.map c) w1 = .ok ((l.filter p).map g) w'
  | [], w1, _, e => ⟨w1, e, rfl⟩
  | d :: ds, w1, h, e => by
    obtain ⟨w2, h1, h2, h3, h4⟩ := h d List.mem_cons_self
    obtain ⟨w', i1, i2⟩ := lc_eq ds w2 (fun x hx => h x (List.mem_cons_of_mem _ hx)) h2
    refine ⟨w', i1, ?_⟩
    by_cases hp : p d = true
    · simp only [List.map_cons, lcL, e, h1, andThen_ok, bnd_ap, h3, hp, if_true, h4 hp, i2, ret_ap, List.filter_cons_of_pos hp]
    · rw [List.filter_cons_of_neg hp]
      simp only [List.map_cons, lcL, e, h1, andThen_ok, bnd_ap, h3, if_neg hp, i2]
theorem eLc_eq {mi : M (List D)} {w0 : W} {l : List α} (hm : mi w0 = .ok (l.map c) w) (hl : l.length ≤ sizeLine) (hn : noOwn vs w.sl = true)
    (h : ∀ x ∈ l, ∃ w2, as (c x) (w.wipe vs) = .ok () w2 ∧ w2.wipe vs = w.wipe vs ∧ ct w2 = .ok (p x) w2 ∧ (p x = true → el w2 = .ok (g x) w2)) :
    eLc vs mi as ct el w0 = .ok (.lst ((l.filter p).map g)) w := by
  obtain ⟨w', e1, e2⟩ := lc_eq l w h rfl
  simp only [eLc, bnd_ap, hm, andThen_ok, List.length_map, hl, hn, and_self, if_true, e2, W.back_eq e1]
theorem all_eq (e : Bool) {q : α → Bool} : ∀ (l : List α) (w1 : W), (∀ x ∈ l, ∃ w2, as (c x) (w.wipe vs) = .ok () w2 ∧ w2.wipe vs = w.wipe vs ∧ ct w2 = .ok (p x) w2 ∧ (p x = true → el w2 = .ok (.bl (q x)) w2)) → w1.wipe vs = w.wipe vs →
    ∃ w', w'.wipe vs = w.wipe vs ∧ allL e vs as ct el (l.map c) w1 = .ok (if l.all (fun d => !p d || q d == e) = true then e else !e) w'
  | [], w1, _, h => ⟨w1, h, by simp [allL]⟩
  | d :: ds, w1, h, h0 => by
    obtain ⟨w2, h1, h2, h3, h4⟩ := h d List.mem_cons_self
    obtain ⟨w', i1, i2⟩ := all_eq e ds w2 (fun x hx => h x (List.mem_cons_of_mem _ hx)) h2
    by_cases hp : p d = true
    · by_cases hq : q d = e
      · refine ⟨w', i1, ?_⟩
        simp only [List.map_cons, allL, h0, h1, andThen_ok, bnd_ap, h3, hp, if_true, h4 hp, hq, i2, List.all_cons, beq_self_eq_true, Bool.or_true, Bool.true_and]
      · refine ⟨w2, h2, ?_⟩
        simp only [List.map_cons, allL, h0, h1, andThen_ok, bnd_ap, h3, hp, if_true, h4 hp, hq, if_false, ret_ap, List.all_cons]
        have : (q d == e) = false := by simpa using hq
        simp [this, hp]
    · refine ⟨w', i1, ?_⟩
      simp only [List.map_cons, allL, h0, h1, andThen_ok, bnd_ap, h3, if_neg hp, i2, List.all_cons]
      simp [hp]
theorem eAll_eq {e : Bool} {q : α → Bool} {mi : M (List D)} {w0 : W} {l : List α} (hm : mi w0 = .ok (l.map c) w) (hn : noOwn vs w.sl = true)
    (h : ∀ x ∈ l, ∃ w2, as (c x) (w.wipe vs) = .ok () w2 ∧ w2.wipe vs = w.wipe vs ∧ ct w2 = .ok (p x) w2 ∧ (p x = true → el w2 = .ok (.bl (q x)) w2)) :
    eAll e vs mi as ct el w0 = .ok (.bl (if l.all (fun d => !p d || q d == e) = true then e else !e)) w := by
  obtain ⟨w', e1, e2⟩ := all_eq e l w h rfl
  simp only [eAll, bnd_ap, hm, andThen_ok, hn, if_true, e2, W.back_eq e1]
theorem eAll_tt {q : α → Bool} {mi : M (List D)} {w0 : W} {l : List α} (hm : mi w0 = .ok (l.map c) w) (hn : noOwn vs w.sl = true)
    (h : ∀ x ∈ l, ∃ w2, as (c x) (w.wipe vs) = .ok () w2 ∧ w2.wipe vs = w.wipe vs ∧ el w2 = .ok (.bl (q x)) w2) :
    eAll true vs mi as cY el w0 = .ok (.bl (l.all q)) w := by
  rw [eAll_eq (ct := cY) (p := fun _ => true) (q := q) hm hn fun x hx => let ⟨w2, h1, h2, h3⟩ := h x hx; ⟨w2, h1, h2, rfl, fun _ => h3⟩]
  simp only [Bool.not_true, Bool.false_or, beq_true]
  cases l.all fun d => q d <;> rfl
/-- a comp whose steps write: some of the things, in their order -/
theorem lc_sub (I : W → Prop) : ∀ (l : List α), (∀ x ∈ l, ∀ w, I w → ∃ w2 b w3, as (c x) (w.wipe vs) = .ok () w2 ∧ ct w2 = .ok b w3 ∧ (b = true → el w3 = .ok (g x) w3) ∧ I w3) →
    ∀ w, I w → ∃ w', ∃ l' : List α, lcL vs as ct el (l.map c) w = .ok (l'.map g) w' ∧ I w' ∧ l'.Sublist l
  | [], _, w, hi => ⟨w, [], rfl, hi, .slnil⟩
  | x :: l, h, w, hi => by
    obtain ⟨w2, b, w3, h1, h2, h3, h4⟩ := h x List.mem_cons_self w hi
    obtain ⟨w', l', e, i, s⟩ := lc_sub I l (fun y hy => h y (List.mem_cons_of_mem _ hy)) w3 h4
    cases b with
    | true => exact ⟨w', x :: l', by simp only [List.map_cons, lcL, h1, andThen_ok, bnd_ap, h2, if_true, h3 rfl, e, ret_ap], i, s.cons₂ x⟩
    | false => exact ⟨w', l', by simp only [List.map_cons, lcL, h1, andThen_ok, bnd_ap, h2, Bool.false_eq_true, if_false, e], i, s.cons x⟩
theorem eLc_sub (I : W → Prop) {mi : M (List D)} {w0 : W} {l : List α} (hm : mi w0 = .ok (l.map c) w) (hl : l.length ≤ sizeLine) (hn : noOwn vs w.sl = true)
    (h : ∀ x ∈ l, ∀ w, I w → ∃ w2 b w3, as (c x) (w.wipe vs) = .ok () w2 ∧ ct w2 = .ok b w3 ∧ (b = true → el w3 = .ok (g x) w3) ∧ I w3) (hi : I w) :
    ∃ w', ∃ l' : List α, eLc vs mi as ct el w0 = .ok (.lst (l'.map g)) (w'.back vs w) ∧ I w' ∧ l'.Sublist l := by
  obtain ⟨w', l', e, i, s⟩ := lc_sub I l h w hi
  exact ⟨w', l', by simp only [eLc, bnd_ap, hm, andThen_ok, List.length_map, hl, hn, and_self, if_true, e], i, s⟩
/-- the first of the least key -/
def minBy (k : α → Int) : α → List α → α
  | b, [] => b
  | b, d :: ds => if k d < k b then minBy k d ds else minBy k b ds
theorem min_eq {j : Nat} {mb : M D} {k : α → Int} : ∀ (ds : List α) (b : α) (w1 : W), (∀ d ∈ ds, ∃ w2, setF j (c d) (w.wipe [j]) = .ok () w2 ∧ w2.wipe [j] = w.wipe [j] ∧ mb w2 = .ok (.int (k d)) w2) → w1.wipe [j] = w.wipe [j] →
    ∃ w', w'.wipe [j] = w.wipe [j] ∧ minL (keyG j mb) (c b) (k b) (ds.map c) w1 = .ok (c (minBy k b ds)) w'
  | [], b, w1, _, h => ⟨w1, h, rfl⟩
  | d :: ds, b, w1, h, h0 => by
    obtain ⟨w2, h1, h2, h3⟩ := h d List.mem_cons_self
    by_cases hk : k d < k b
    · obtain ⟨w', i1, i2⟩ := min_eq ds d w2 (fun x hx => h x (List.mem_cons_of_mem _ hx)) h2
      refine ⟨w', i1, ?_⟩
      simp only [List.map_cons, minL, bnd_ap, keyG, h0, h1, andThen_ok, h3, ret_ap, hk, if_true, i2, minBy]
    · obtain ⟨w', i1, i2⟩ := min_eq ds b w2 (fun x hx => h x (List.mem_cons_of_mem _ hx)) h2
      refine ⟨w', i1, ?_⟩
      simp only [List.map_cons, minL, bnd_ap, keyG, h0, h1, andThen_ok, h3, ret_ap, hk, if_false, i2, minBy]
theorem eMinK_eq {j : Nat} {mb : M D} {k : α → Int} {mi : M D} {w0 : W} {d : α} {ds : List α} (hm : mi w0 = .ok (.lst ((d :: ds).map c)) w) (hn : noOwn [j] w.sl = true)
    (h : ∀ x ∈ d :: ds, ∃ w2, setF j (c x) (w.wipe [j]) = .ok () w2 ∧ w2.wipe [j] = w.wipe [j] ∧ mb w2 = .ok (.int (k x)) w2) :
    eMinK j mi mb w0 = .ok (c (minBy k d ds)) w := by
  obtain ⟨w2, h1, h2, h3⟩ := h d List.mem_cons_self
  obtain ⟨w', i1, i2⟩ := min_eq ds d w2 (fun x hx => h x (List.mem_cons_of_mem _ hx)) h2
  have hk : keyG j mb (c d) w = .ok (k d) w2 := by simp only [keyG, h1, andThen_ok, bnd_ap, h3, ret_ap]
  simp only [List.map_cons] at hm
  simp only [eMinK, bnd_ap, hm, andThen_ok, hn, if_true, minN, hk, i2, W.back_eq i1]
end
/-! ### loops -/
section
variable {as : D → M Unit} {mb : M Fl}
theorem for_inv (I : List D → W → Prop) (step : ∀ d ds w, I (d :: ds) w → ∃ w1 f w2, as d w = .ok () w1 ∧ mb w1 = .ok f w2 ∧ (f = .nx ∨ f = .ct) ∧ I ds w2) :
    ∀ (ds : List D) (w : W), I ds w → ∃ w', forL as mb ds w = .ok .nx w' ∧ I [] w'
  | [], w, h => ⟨w, rfl, h⟩
  | d :: ds, w, h => by
    obtain ⟨w1, f, w2, h1, h2, h3, h4⟩ := step d ds w h
    obtain ⟨w', e, i⟩ := for_inv I step ds w2 h4
    refine ⟨w', ?_, i⟩
    rcases h3 with rfl | rfl <;> simp only [forL, bnd_ap, h1, andThen_ok, h2, loopK, e]
theorem for_map {α : Type} {c : α → D} (I : List α → W → Prop) (step : ∀ d ds w, I (d :: ds) w → ∃ w1 f w2, as (c d) w = .ok () w1 ∧ mb w1 = .ok f w2 ∧ (f = .nx ∨ f = .ct) ∧ I ds w2) :
    ∀ (ds : List α) (w : W), I ds w → ∃ w', forL as mb (ds.map c) w = .ok .nx w' ∧ I [] w'
  | [], w, h => ⟨w, rfl, h⟩
  | d :: ds, w, h => by
    obtain ⟨w1, f, w2, h1, h2, h3, h4⟩ := step d ds w h
    obtain ⟨w', e, i⟩ := for_map I step ds w2 h4
    refine ⟨w', ?_, i⟩
    rcases h3 with rfl | rfl <;> simp only [List.map_cons, forL, bnd_ap, h1, andThen_ok, h2, loopK, e]
theorem for_map_ret {α : Type} {c : α → D} (I : List α → W → Prop) (Q : D → W → Prop) (step : ∀ d ds w, I (d :: ds) w → ∃ w1 f w2, as (c d) w = .ok () w1 ∧ mb w1 = .ok f w2 ∧ (((f = .nx ∨ f = .ct) ∧ I ds w2) ∨ ∃ r, f = .rt r ∧ Q r w2)) :
    ∀ (ds : List α) (w : W), I ds w → ∃ f w', forL as mb (ds.map c) w = .ok f w' ∧ ((f = .nx ∧ I [] w') ∨ ∃ r, f = .rt r ∧ Q r w')
  | [], w, h => ⟨.nx, w, rfl, .inl ⟨rfl, h⟩⟩
  | d :: ds, w, h => by
    obtain ⟨w1, f, w2, h1, h2, h3⟩ := step d ds w h
    rcases h3 with ⟨h3, h4⟩ | ⟨r, rfl, h3⟩
    · obtain ⟨f', w', e, i⟩ := for_map_ret I Q step ds w2 h4
      refine ⟨f', w', ?_, i⟩
      rcases h3 with rfl | rfl <;> simp only [List.map_cons, forL, bnd_ap, h1, andThen_ok, h2, loopK, e]
    · exact ⟨.rt r, w2, by simp only [List.map_cons, forL, bnd_ap, h1, andThen_ok, h2, loopK, ret_ap], .inr ⟨r, rfl, h3⟩⟩
theorem for_ret (I : List D → W → Prop) (Q : D → W → Prop) (step : ∀ d ds w, I (d :: ds) w → ∃ w1 f w2, as d w = .ok () w1 ∧ mb w1 = .ok f w2 ∧ (((f = .nx ∨ f = .ct) ∧ I ds w2) ∨ ∃ r, f = .rt r ∧ Q r w2)) :
    ∀ (ds : List D) (w : W), I ds w → ∃ f w', forL as mb ds w = .ok f w' ∧ ((f = .nx ∧ I [] w') ∨ ∃ r, f = .rt r ∧ Q r w')
  | [], w, h => ⟨.nx, w, rfl, .inl ⟨rfl, h⟩⟩
  | d :: ds, w, h => by
    obtain ⟨w1, f, w2, h1, h2, h3⟩ := step d ds w h
    rcases h3 with ⟨h3, h4⟩ | ⟨r, rfl, h3⟩
    · obtain ⟨f', w', e, i⟩ := for_ret I Q step ds w2 h4
      refine ⟨f', w', ?_, i⟩
      rcases h3 with rfl | rfl <;> simp only [forL, bnd_ap, h1, andThen_ok, h2, loopK, e]
    · exact ⟨.rt r, w2, by simp only [forL, bnd_ap, h1, andThen_ok, h2, loopK, ret_ap], .inr ⟨r, rfl, h3⟩⟩
end
section
variable {c : M Bool} {mb : M Fl}
theorem while_inv (I : Nat → W → Prop) (Q : W → Prop) (step : ∀ n w, I n w → (∃ w1 f w2 n', c w = .ok true w1 ∧ mb w1 = .ok f w2 ∧ (f = .nx ∨ f = .ct) ∧ n' < n ∧ I n' w2) ∨ (∃ w1, c w = .ok false w1 ∧ Q w1)) :
    ∀ (k n : Nat) (w : W), n < k → I n w → ∃ w', whileL c mb k w = .ok .nx w' ∧ Q w'
  | 0, n, w, h, _ => by omega
  | k + 1, n, w, h, hi => by
    rcases step n w hi with ⟨w1, f, w2, n', h1, h2, h3, h4, h5⟩ | ⟨w1, h1, h2⟩
    · obtain ⟨w', e, q⟩ := while_inv I Q step k n' w2 (by omega) h5
      refine ⟨w', ?_, q⟩
      rcases h3 with rfl | rfl <;> simp only [whileL, bnd_ap, h1, andThen_ok, if_true, h2, loopK, e]
    · exact ⟨w1, by simp only [whileL, bnd_ap, h1, andThen_ok, Bool.false_eq_true, if_false, ret_ap], h2⟩
end
/-! ### values -/
/-- a tuple of ints -/
abbrev tu (l : List Int) : D := .tup (l.map .int)
theorem pys_int : ∀ l : List Int, pys (l.map .int) = l.map PyData.int
  | [] => rfl
  | i :: l => by simp only [List.map_cons, pys, py, pys_int l]
theorem eqvAll_int : ∀ a b : List Int, PyData.eqvAll (a.map PyData.int) (b.map PyData.int) = decide (a = b)
  | [], [] => by simp [PyData.eqvAll]
  | [], _ :: _ => by simp [PyData.eqvAll]
  | _ :: _, [] => by simp [PyData.eqvAll]
  | x :: a, y :: b => by
    simp only [List.map_cons, PyData.eqvAll, PyData.eqv, eqvAll_int a b, List.cons.injEq, Bool.decide_and]
    rfl
theorem eqB_tu (a b : List Int) : eqB (tu a) (tu b) = decide (a = b) := by
  simp only [eqB, tu, py, pys_int, PyData.eqv, eqvAll_int]
theorem shp_tu (n : Nat) (a : List Int) : shp (n + 2) (tu a) = true := by
  simp [tu, shp]
theorem eqB_int (i j : Int) : eqB (.int i) (.int j) = decide (i = j) := by
  simp only [eqB, py, PyData.eqv]
  rfl
theorem inB_int (x : Int) (l : List Int) : inB (.int x) (l.map .int) = decide (x ∈ l) := by
  simp only [inB, pys_int, py, List.any_map]
  rw [Bool.eq_iff_iff]
  simp only [List.any_eq_true, decide_eq_true_eq, Function.comp, PyData.eqv, beq_iff_eq, exists_eq_right]
theorem shp_ints (l : List Int) : (l.map D.int).all (shp 12) = true := by simp [shp]
theorem rgL_eq : ∀ (n : Nat) (lo : Int), rgL lo n = (List.range n).map fun i : Nat => D.int (lo + i)
  | 0, _ => rfl
  | n + 1, lo => by
    rw [rgL, rgL_eq n (lo + 1), List.range_succ_eq_map]
    simp only [List.map_cons, List.map_map, Int.natCast_zero, Int.add_zero, List.cons.injEq, true_and]
    refine List.map_congr_left fun i _ => ?_
    simp only [Function.comp, D.int.injEq]
    omega
theorem zipP_map {α β : Type} (f : α → D) (g : β → D) : ∀ (a : List α) (b : List β), zipP (a.map f) (b.map g) = (a.zip b).map fun p => .tup [f p.1, g p.2]
  | [], _ => by simp [zipP]
  | _ :: _, [] => by simp [zipP]
  | x :: a, y :: b => by simp only [List.map_cons, zipP, zipP_map f g a b, List.zip_cons_cons]
theorem numb_map {α : Type} (f : α → D) : ∀ (a : List α) (i : Nat), numb i (a.map f) = (a.zipIdx i).map fun p => .tup [.int (p.2 : Nat), f p.1]
  | [], _ => rfl
  | x :: a, i => by simp only [List.map_cons, numb, numb_map f a (i + 1), List.zipIdx_cons]
theorem atI_map {α β : Type} (f : α → β) (l : List α) (i : Int) : atI (l.map f) i = (atI l i).map f := by
  simp only [atI, List.length_map, List.getElem?_map]
  cases ixN l.length i <;> rfl
theorem atI_ofNat {α : Type} (l : List α) (n : Nat) : atI l (n : Int) = l[n]? := by
  unfold atI ixN
  by_cases h : n < l.length
  · simp [h]
  · simp [h]
theorem cutD_from (xs : List D) {i : Int} (h : 0 ≤ i) : cutD xs (some i) none = xs.drop i.toNat := by
  obtain ⟨k, rfl⟩ := Int.eq_ofNat_of_zero_le h
  simp only [cutD, HT.sIx_nat, HT.sIx_none, Int.toNat_natCast]
  rcases Nat.le_total k xs.length with e | e
  · rw [Nat.min_eq_left e, List.take_of_length_le (by simp)]
  · rw [Nat.min_eq_right e]
    simp [List.drop_eq_nil_of_le e]
theorem cutD_to (xs : List D) {i : Int} (h : 0 ≤ i) : cutD xs none (some i) = xs.take i.toNat := by
  obtain ⟨k, rfl⟩ := Int.eq_ofNat_of_zero_le h
  simp only [cutD, HT.sIx_nat, HT.sIx_none, Int.toNat_natCast, List.drop_zero, Nat.sub_zero]
  rcases Nat.le_total k xs.length with e | e
  · rw [Nat.min_eq_left e]
  · rw [Nat.min_eq_right e, List.take_of_length_le (Nat.le_refl _), List.take_of_length_le e]
@[simp] theorem cutD_one (xs : List D) : cutD xs (some 1) none = xs.tail := by
  rw [cutD_from xs (by decide)]
  simp
end Dl


set_option Elab.async false
set_option linter.all false
set_option maxRecDepth 100000
set_option maxHeartbeats 4000000
/-! printed by simps.py: what a denotation is, for simp -/
namespace Dl
open PySem L2 PyProof.Rows
@[simp] theorem eC_u (d : D) : eC d = (M.ret d) := rfl
@[simp] theorem eB_u (f : D → D → M D) (ma mb : M D) : eB f ma mb = (ma.bnd fun x => mb.bnd fun y => f x y) := rfl
@[simp] theorem eV_u (i : Nat) : eV i = (fun w => match w.sl[i]? with
  | some (some (false, d)) => .ok d w
  | some (some (true, d)) => .ok d { w with sl := w.sl.set i (some (false, d)) }
  | _ => .bad) := rfl
@[simp] theorem eP_u (i : Nat) : eP i = (fun w => match w.sl[i]? with
  | some (some (_, d)) => .ok d w
  | _ => .bad) := rfl
@[simp] theorem isB_u0   {b} : isB  (.bl b) = (M.ret b) := rfl
@[simp] theorem addD_u0   {i} {j} : addD  (.int i) (.int j) = (M.ret (.int (i + j))) := rfl
@[simp] theorem addD_u1   {b} {i} : addD  (.int i) (.bl b) = (M.ret (.int (i + b2i b))) := rfl
@[simp] theorem addD_u2   {x} {y} : addD  (.str x) (.str y) = (if x.length + y.length ≤ sizeLine then M.ret (.str (x ++ y)) else M.no) := rfl
@[simp] theorem addD_u3   {a} {b} : addD  (.tup a) (.tup b) = (if a.length + b.length ≤ sizeLine then M.ret (.tup (a ++ b)) else M.no) := rfl
@[simp] theorem addD_u4   {a} {b} : addD  (.lst a) (.lst b) = (if a.length + b.length ≤ sizeLine then M.ret (.lst (a ++ b)) else M.no) := rfl
@[simp] theorem i2_u0 (f : Int → Int → Option D)  {i} {j} : i2 f (.int i) (.int j) = (M.opt (f i j)) := rfl
@[simp] theorem subD_u  : subD  = (i2 fun i j => some (.int (i - j))) := rfl
@[simp] theorem mulD_u0   {i} {j} : mulD  (.int i) (.int j) = (if (-(2 ^ 64) < i ∧ i < 2 ^ 64) ∨ (-(2 ^ 64) < j ∧ j < 2 ^ 64) then M.ret (.int (i * j)) else M.no) := rfl
@[simp] theorem mulD_u1   {ds} {k} : mulD  (.lst ds) (.int k) = (if -(2 ^ 63) ≤ k ∧ k < 2 ^ 63 ∧ ds.length * k.toNat ≤ sizeLine then M.ret (.lst (List.replicate k.toNat ds).flatten) else M.no) := rfl
@[simp] theorem fdivD_u  : fdivD  = (i2 fun i j => if j ≠ 0 ∧ j.natAbs < 1073741824 then some (.int (i.fdiv j)) else none) := rfl
@[simp] theorem modD_u  : modD  = (i2 fun i j => if j ≠ 0 then some (.int (i.fmod j)) else none) := rfl
@[simp] theorem negD_u (d : D) : negD d = (match d with
  | .int i => M.ret (.int (-i))
  | _ => M.no) := rfl
@[simp] theorem cmpD_u (p : Int → Int → Bool) : cmpD p = (i2 fun i j => some (.bl (p i j))) := rfl
@[simp] theorem eIsN_u (m : M D) : eIsN m = (m.bnd fun d => M.ret (.bl (isN d))) := rfl
@[simp] theorem eNotN_u (m : M D) : eNotN m = (m.bnd fun d => M.ret (.bl (!isN d))) := rfl
@[simp] theorem b2_u0 (f : Bool → Bool → Bool)  {i} {j} : b2 f (.bl i) (.bl j) = (M.ret (.bl (f i j))) := rfl
@[simp] theorem isD_u  : isD  = (b2 fun i j => decide (i = j)) := rfl
@[simp] theorem isnotD_u  : isnotD  = (b2 fun i j => !decide (i = j)) := rfl
@[simp] theorem eCh_u (f g : D → D → M D) (ma mb mc : M D) : eCh f g ma mb mc = (ma.bnd fun x => mb.bnd fun y => (f x y).bnd fun z => (isB z).bnd fun k => if k = true then mc.bnd fun u => g y u else M.ret (.bl false)) := rfl
@[simp] theorem truD_u0   : truD  (.non) = (M.ret false) := rfl
@[simp] theorem truD_u1   {b} : truD  (.bl b) = (M.ret b) := rfl
@[simp] theorem truD_u2   {i} : truD  (.int i) = (M.ret (i != 0)) := rfl
@[simp] theorem truD_u3   {x} : truD  (.str x) = (if x.length ≤ sizeLine then M.ret ((x.length : Int) != 0) else M.no) := rfl
@[simp] theorem truD_u4   {ds} : truD  (.tup ds) = (M.ret (!ds.isEmpty)) := rfl
@[simp] theorem truD_u5   {ds} : truD  (.lst ds) = (M.ret (!ds.isEmpty)) := rfl
@[simp] theorem tAn_u (m n : M Bool) : tAn m n = (m.bnd fun k => if k = true then n else M.ret false) := rfl
@[simp] theorem tOrP_u (m n : M Bool) : tOr' m n = (m.bnd fun k => if k = true then M.ret true else n) := rfl
@[simp] theorem tNo_u (m : M Bool) : tNo m = (m.bnd fun k => M.ret (!k)) := rfl
@[simp] theorem eAn_u (m n : M D) : eAn m n = (m.bnd fun d => (truD d).bnd fun k => if k = true then n else M.ret d) := rfl
@[simp] theorem eOr_u (m n : M D) : eOr m n = (m.bnd fun d => (truD d).bnd fun k => if k = true then M.ret d else n) := rfl
@[simp] theorem eNo_u (m : M D) : eNo m = (m.bnd fun d => (truD d).bnd fun k => M.ret (.bl (!k))) := rfl
@[simp] theorem eIf_u (c : M Bool) (m n : M D) : eIf c m n = (c.bnd fun k => if k = true then m else n) := rfl
@[simp] theorem lN_u  : lN  = (M.ret []) := rfl
@[simp] theorem lC_u (m : M D) (l : M (List D)) : lC m l = (m.bnd fun d => l.bnd fun ds => M.ret (d :: ds)) := rfl
@[simp] theorem eTu_u (l : M (List D)) : eTu l = (l.bnd fun ds => if ds.length ≤ sizeLine then M.ret (.tup ds) else M.no) := rfl
@[simp] theorem eLs_u (l : M (List D)) : eLs l = (l.bnd fun ds => if ds.length ≤ sizeLine then M.ret (.lst ds) else M.no) := rfl
@[simp] theorem lenF_u (d : D) : lenF d = (match d with
  | .str x => if x.length ≤ sizeLine then M.ret (.int x.length) else M.no
  | .tup ds => M.ret (.int ds.length)
  | .lst ds => M.ret (.int ds.length)
  | .scr ns => M.ret (.int ns.length)
  | _ => M.no) := rfl
@[simp] theorem intF_u (d : D) : intF d = (match d with
  | .int i => M.ret (.int i)
  | .bl k => M.ret (.int (if k then 1 else 0))
  | _ => M.no) := rfl
@[simp] theorem listF_u (d : D) : listF d = (match d with
  | .lst ds => M.ret (.lst ds)
  | .tup ds => M.ret (.lst ds)
  | _ => M.no) := rfl
@[simp] theorem tupleF_u (d : D) : tupleF d = (match d with
  | .lst ds => M.ret (.tup ds)
  | .tup ds => M.ret (.tup ds)
  | _ => M.no) := rfl
@[simp] theorem tupleL_u (d : D) : tupleL d = (match d with
  | .lst ds => M.ret (.tup ds)
  | _ => M.no) := rfl
@[simp] theorem minF_u0   {i} {j} : minF  ([.int i, .int j]) = (M.ret (.int (if j < i then j else i))) := rfl
@[simp] theorem maxF_u0   {i} {j} : maxF  ([.int i, .int j]) = (M.ret (.int (if j > i then j else i))) := rfl
@[simp] theorem isiD_u0   {z0} : isiD  (.int) (.int z0) = (some true) := rfl
@[simp] theorem isiD_u1   {z1} : isiD  (.int) (.bl z1) = (some true) := rfl
@[simp] theorem isiD_u2   {z2} : isiD  (.bool) (.bl z2) = (some true) := rfl
@[simp] theorem isiD_u3   {z3} : isiD  (.tup) (.tup z3) = (some true) := rfl
@[simp] theorem isiD_u4   {z4} : isiD  (.lst) (.lst z4) = (some true) := rfl
@[simp] theorem isiD_u5   {z5} : isiD  (.str) (.str z5) = (some true) := rfl
@[simp] theorem isiD_u6   {z6} : isiD  (.tl) (.tup z6) = (some true) := rfl
@[simp] theorem isiD_u7   {z7} : isiD  (.tl) (.lst z7) = (some true) := rfl
@[simp] theorem isiF_u (t : Ty) (d : D) : isiF t d = (match isiD t d with
  | some b => M.ret (.bl b)
  | none => M.no) := rfl
@[simp] theorem eBV_u (f : D → D → M D) (i : Nat) (mb : M D) : eBV f i mb = ((eP i).bnd fun _ => mb.bnd fun y => (eP i).bnd fun x => f x y) := rfl
@[simp] theorem ixD_u0   {ds} {i} : ixD  (.tup ds) (.int i) = (M.opt (atI ds i)) := rfl
@[simp] theorem ixD_u1   {ds} {i} : ixD  (.lst ds) (.int i) = (M.opt (atI ds i)) := rfl
@[simp] theorem ixD_u2   {i} {ns} : ixD  (.scr ns) (.int i) = (M.opt ((atI ns i).map D.int)) := rfl
@[simp] theorem ixD_u3   {i} {z} : ixD  (.str z) (.int i) = (if z.length ≤ sizeLine then M.opt ((atI z.cps.toList i).map fun c => D.str ⟨#[c]⟩) else M.no) := rfl
@[simp] theorem oN_u  : oN  = (M.ret none) := rfl
@[simp] theorem oI_u (m : M D) : oI m = (m.bnd fun d => match d with
  | .int i => M.ret (some i)
  | _ => M.no) := rfl
@[simp] theorem eSl_u (m : M D) (l u : M (Option Int)) : eSl m l u = (m.bnd fun d => l.bnd fun lo => u.bnd fun hi => slD d lo hi) := rfl
@[simp] theorem slD_u (d : D) (lo hi : Option Int) : slD d lo hi = (match d with
  | .tup ds => M.ret (.tup (cutD ds lo hi))
  | .lst ds => M.ret (.lst (cutD ds lo hi))
  | _ => M.no) := rfl
@[simp] theorem slL_u (d : D) (lo hi : Option Int) : slL d lo hi = (match d with
  | .lst ds => M.ret (.lst (cutD ds lo hi))
  | _ => M.no) := rfl
@[simp] theorem eSlV_u (i : Nat) (l u : M (Option Int)) : eSlV i l u = ((eP i).bnd fun _ => l.bnd fun lo => u.bnd fun hi => (eP i).bnd fun d => slL d lo hi) := rfl
@[simp] theorem inD_u0 (neg : Bool)  {ds} {x} : inD neg (x) (.tup ds) = (if shp 12 x && ds.all (shp 12) then M.ret (.bl (if neg then !inB x ds else inB x ds)) else M.no) := rfl
@[simp] theorem inD_u1 (neg : Bool)  {ds} {x} : inD neg (x) (.lst ds) = (if shp 12 x && ds.all (shp 12) then M.ret (.bl (if neg then !inB x ds else inB x ds)) else M.no) := rfl
@[simp] theorem catD_u0   {a} {b} : catD  (.lst a) (.lst b) = (if a.length + b.length ≤ sizeLine then M.ret (.lst (a ++ b)) else M.no) := rfl
@[simp] theorem sPass_u  : sPass  = (M.ret .nx) := rfl
@[simp] theorem sE_u (m : M D) : sE m = (m.bnd fun _ => M.ret .nx) := rfl
@[simp] theorem sRet_u (m : M D) : sRet m = (m.bnd fun d => M.ret (.rt d)) := rfl
@[simp] theorem sSeq_u (m n : M Fl) : sSeq m n = (m.bnd fun f => match f with
  | .nx => n
  | f => M.ret f) := rfl
@[simp] theorem sIf_u (c : M Bool) (m n : M Fl) : sIf c m n = (c.bnd fun k => if k = true then m else n) := rfl
@[simp] theorem setF_u (i : Nat) (d : D) : setF i d = (fun w => if i < w.sl.length then .ok () { w with sl := w.sl.set i (some (false, d)) } else .bad) := rfl
@[simp] theorem setO_u (i : Nat) (d : D) : setO i d = (fun w => if i < w.sl.length then .ok () { w with sl := w.sl.set i (some (true, d)) } else .bad) := rfl
@[simp] theorem sSet_u (i : Nat) (m : M D) : sSet i m = (m.bnd fun d => (setF i d).bnd fun _ => M.ret .nx) := rfl
@[simp] theorem sOwn_u (i : Nat) (m : M D) : sOwn i m = (m.bnd fun d => (setO i d).bnd fun _ => M.ret .nx) := rfl
@[simp] theorem tgN_u0   : tgN  ([]) = (M.ret ()) := rfl
@[simp] theorem tgC_u0 (as : D → M Unit) (bs : List D → M Unit)  {d} {ds} : tgC as bs (d :: ds) = ((as d).bnd fun _ => bs ds) := rfl
@[simp] theorem tgC_u1 (as : D → M Unit) (bs : List D → M Unit)  : tgC as bs ([]) = (M.no) := rfl
@[simp] theorem tgT_u0 (bs : List D → M Unit) (n : Nat)  {ds} : tgT bs n (.tup ds) = (if ds.length = n then bs ds else M.no) := rfl
@[simp] theorem sAsg_u (as : D → M Unit) (m : M D) : sAsg as m = (m.bnd fun d => (as d).bnd fun _ => M.ret .nx) := rfl
@[simp] theorem sAug_u (i : Nat) (f : D → D → M D) (m : M D) : sAug i f m = ((eV i).bnd fun x => m.bnd fun y => (f x y).bnd fun z => (setF i z).bnd fun _ => M.ret .nx) := rfl
@[simp] theorem ownL_u (i : Nat) (m : M D) (k : List D → D → Option (D × List D)) : ownL i m k = (fun w => match w.sl[i]? with
  | some (some (true, .lst _)) => (m w).andThen fun d w2 => match w2.sl[i]? with
    | some (some (true, .lst ds)) => match k ds d with
      | some (r, ds') => .ok r { w2 with sl := w2.sl.set i (some (true, .lst ds')) }
      | none => .bad
    | _ => .bad
  | _ => .bad) := rfl
@[simp] theorem appK_u (ds : List D) (d : D) : appK ds d = (if ds.length < sizeLine then some (.non, ds ++ [d]) else none) := rfl
@[simp] theorem popK_u (ds : List D) (d : D) : popK ds d = (match d with
  | .int i => if -(2 ^ 63) ≤ i ∧ i < 2 ^ 63 then match ixN ds.length i with
    | some j => match ds[j]? with
      | some z => some (z, ds.eraseIdx j)
      | none => none
    | none => none
    else none
  | _ => none) := rfl
@[simp] theorem eP0_u (i : Nat) : eP0 i = (fun w => match w.sl[i]? with
  | some (some (true, .lst ds)) => match ds[ds.length - 1]? with
    | some z => .ok z { w with sl := w.sl.set i (some (true, .lst ds.dropLast)) }
    | none => .bad
  | _ => .bad) := rfl
@[simp] theorem sExt_u (i : Nat) (m : M D) : sExt i m = (fun w => match w.sl[i]? with
  | some (some (true, .lst _)) => (m w).andThen fun d w2 => match d, w2.sl[i]? with
    | .lst es, some (some (true, .lst ds)) => if ds.length + es.length ≤ sizeLine then .ok .nx { w2 with sl := w2.sl.set i (some (true, .lst (ds ++ es))) } else .bad
    | _, _ => .bad
  | _ => .bad) := rfl
@[simp] theorem tgI_u (i : Nat) (mk : M D) (d : D) : tgI i mk d = (fun w => match w.sl[i]? with
  | some (some (true, .lst _)) => (mk w).andThen fun k w2 => match k, w2.sl[i]? with
    | .int j, some (some (true, .lst ds)) => match ixN ds.length j with
      | some n => .ok () { w2 with sl := w2.sl.set i (some (true, .lst (ds.set n d))) }
      | none => .bad
    | _, _ => .bad
  | _ => .bad) := rfl
@[simp] theorem tgS_u (mo mk : M D) (d : D) : tgS mo mk d = (mo.bnd fun o => match o with
  | .ob n => mk.bnd fun k => fun w2 => match k, w2.st[n]? with
    | .int j, some (.lst ds) => match ixN ds.length j with
      | some m => .ok () { w2 with st := w2.st.set n (.lst (ds.set m d)) }
      | none => .bad
    | _, _ => .bad
  | _ => M.no) := rfl
@[simp] theorem eIxS_u (mo mk : M D) : eIxS mo mk = (mo.bnd fun o => match o with
  | .ob n => mk.bnd fun k => fun w2 => match k, w2.st[n]? with
    | .int j, some (.lst ds) => match L2.atI ds j with
      | some d => .ok d w2
      | none => .bad
    | _, _ => .bad
  | _ => M.no) := rfl
@[simp] theorem sNew_u (i : Nat) (m : M D) : sNew i m = (m.bnd fun d => fun w => match d with
  | .lst ds => if i < w.sl.length then .ok .nx { sl := w.sl.set i (some (false, .ob w.st.length)), st := w.st ++ [.lst ds] } else .bad
  | _ => .bad) := rfl
@[simp] theorem seqD_u0   {ds} : seqD  (.lst ds) = (some ds) := rfl
@[simp] theorem seqD_u1   {ds} : seqD  (.tup ds) = (some ds) := rfl
@[simp] theorem iSq_u (m : M D) : iSq m = (m.bnd fun d => M.opt (seqD d)) := rfl
@[simp] theorem r1D_u0   {j} : r1D  ([.int j]) = (if -(2 ^ 62) ≤ j ∧ j < 2 ^ 62 then some (rgL 0 j.toNat) else none) := rfl
@[simp] theorem r2D_u0   {i} {j} : r2D  ([.int i, .int j]) = (if -(2 ^ 62) ≤ i ∧ i < 2 ^ 62 ∧ -(2 ^ 62) ≤ j ∧ j < 2 ^ 62 then some (rgL i (j - i).toNat) else none) := rfl
@[simp] theorem r3D_u0   {c} {i} {j} : r3D  ([.int i, .int j, .int c]) = (if c = -1 ∧ -(2 ^ 62) ≤ i ∧ i < 2 ^ 62 ∧ -(2 ^ 62) ≤ j ∧ j < 2 ^ 62 then some (rgC i (-1) (i - j).toNat) else none) := rfl
@[simp] theorem iRg_u (f : List D → Option (List D)) (m : M (List D)) : iRg f m = (m.bnd fun d => M.opt (f d)) := rfl
@[simp] theorem enD_u0   {ds} : enD  ([.lst ds]) = (some (numb 0 ds)) := rfl
@[simp] theorem enD_u1   {ds} : enD  ([.tup ds]) = (some (numb 0 ds)) := rfl
@[simp] theorem zpD_u0   {ds} {es} : zpD  ([.lst ds, .lst es]) = (some (zipP ds es)) := rfl
@[simp] theorem zpD_u1   {ds} {es} : zpD  ([.tup ds, .tup es]) = (some (zipP ds es)) := rfl
@[simp] theorem sFor_u (mi : M (List D)) (as : D → M Unit) (mb : M Fl) : sFor mi as mb = (mi.bnd (forL as mb)) := rfl
@[simp] theorem truN_u0   {ds} : truN  (.tup ds) = (M.ret (!ds.isEmpty)) := rfl
@[simp] theorem truN_u1   {ds} : truN  (.lst ds) = (M.ret (!ds.isEmpty)) := rfl
@[simp] theorem addI_u0   {i} {j} : addI  (.int i) (.int j) = (M.ret (.int (i + j))) := rfl
@[simp] theorem addI_u1   {b} {i} : addI  (.int i) (.bl b) = (M.ret (.int (i + b2i b))) := rfl
@[simp] theorem min3F_u0   {i} {j} {k} : min3F  ([.int i, .int j, .int k]) = (M.ret (.int (if k < (if j < i then j else i) then k else (if j < i then j else i)))) := rfl
@[simp] theorem setK_u (k : Bool) (i : Nat) (d : D) : setK k i d = (if k = true then setO i d else setF i d) := rfl
@[simp] theorem sPair_u (k1 k2 : Bool) (i j : Nat) (ma mb : M D) : sPair k1 k2 i j ma mb = (ma.bnd fun x => mb.bnd fun y => (setK k1 i x).bnd fun _ => (setK k2 j y).bnd fun _ => M.ret .nx) := rfl
@[simp] theorem sPar3_u (i j l : Nat) (ma mb mc : M D) : sPar3 i j l ma mb mc = (ma.bnd fun x => mb.bnd fun y => mc.bnd fun z => (setF i x).bnd fun _ => (setF j y).bnd fun _ => (setF l z).bnd fun _ => M.ret .nx) := rfl
@[simp] theorem tT_u (m : M D) : tT m = (m.bnd isB) := rfl
@[simp] theorem eqD_u (x y : D) : eqD x y = (if shp 12 x && shp 12 y then M.ret (.bl (eqB x y)) else M.no) := rfl
@[simp] theorem neD_u (x y : D) : neD x y = (if shp 12 x && shp 12 y then M.ret (.bl (!eqB x y)) else M.no) := rfl
@[simp] theorem args_u (n : Nat) (ds : List D) : args n ds = (ds.map (fun d => some (false, d)) ++ List.replicate (n - ds.length) none) := rfl
@[simp] theorem loopK_u (f : Fl) (k : M Fl) : loopK f k = (match f with
  | .nx => k
  | .ct => k
  | .bk => M.ret .nx
  | .rt d => M.ret (.rt d)) := rfl
@[simp] theorem isN_u0   : isN  (.non) = (true) := rfl
@[simp] theorem numb_u0   {z0} : numb  (z0) ([]) = ([]) := rfl
@[simp] theorem numb_u1   {d} {ds} {i} : numb  (i) (d :: ds) = (.tup [.int i, d] :: numb (i + 1) ds) := rfl
@[simp] theorem zipP_u0   {d} {ds} {e} {es} : zipP  (d :: ds) (e :: es) = (.tup [d, e] :: zipP ds es) := rfl
@[simp] theorem isiD_bool_non  : isiD .bool .non = some false := rfl
@[simp] theorem isiD_bool_int {i : Int} : isiD .bool (.int i) = some false := rfl
@[simp] theorem isiD_bool_str {x : Str} : isiD .bool (.str x) = some false := rfl
@[simp] theorem isiD_bool_tup {ds : List D} : isiD .bool (.tup ds) = some false := rfl
@[simp] theorem isiD_bool_lst {ds : List D} : isiD .bool (.lst ds) = some false := rfl
@[simp] theorem isiD_int_non  : isiD .int .non = some false := rfl
@[simp] theorem isiD_int_str {x : Str} : isiD .int (.str x) = some false := rfl
@[simp] theorem isiD_int_tup {ds : List D} : isiD .int (.tup ds) = some false := rfl
@[simp] theorem isiD_int_lst {ds : List D} : isiD .int (.lst ds) = some false := rfl
@[simp] theorem isiD_str_non  : isiD .str .non = some false := rfl
@[simp] theorem isiD_str_bl {b : Bool} : isiD .str (.bl b) = some false := rfl
@[simp] theorem isiD_str_int {i : Int} : isiD .str (.int i) = some false := rfl
@[simp] theorem isiD_str_tup {ds : List D} : isiD .str (.tup ds) = some false := rfl
@[simp] theorem isiD_str_lst {ds : List D} : isiD .str (.lst ds) = some false := rfl
@[simp] theorem isiD_tup_non  : isiD .tup .non = some false := rfl
@[simp] theorem isiD_tup_bl {b : Bool} : isiD .tup (.bl b) = some false := rfl
@[simp] theorem isiD_tup_int {i : Int} : isiD .tup (.int i) = some false := rfl
@[simp] theorem isiD_tup_str {x : Str} : isiD .tup (.str x) = some false := rfl
@[simp] theorem isiD_tup_lst {ds : List D} : isiD .tup (.lst ds) = some false := rfl
@[simp] theorem isiD_lst_non  : isiD .lst .non = some false := rfl
@[simp] theorem isiD_lst_bl {b : Bool} : isiD .lst (.bl b) = some false := rfl
@[simp] theorem isiD_lst_int {i : Int} : isiD .lst (.int i) = some false := rfl
@[simp] theorem isiD_lst_str {x : Str} : isiD .lst (.str x) = some false := rfl
@[simp] theorem isiD_lst_tup {ds : List D} : isiD .lst (.tup ds) = some false := rfl
@[simp] theorem isiD_tl_non  : isiD .tl .non = some false := rfl
@[simp] theorem isiD_tl_bl {b : Bool} : isiD .tl (.bl b) = some false := rfl
@[simp] theorem isiD_tl_int {i : Int} : isiD .tl (.int i) = some false := rfl
@[simp] theorem isiD_tl_str {x : Str} : isiD .tl (.str x) = some false := rfl
theorem fnD_of {n : Nat} {b : M Fl} {ds : List D} {d : D} {w w' : W} (h : b ⟨args n ds, w.st⟩ = .ok (.rt d) w') (hs : w'.st = w.st) : fnD n b ds w = .ok d w := by
  simp only [fnD, h, hs]
theorem fnD_nx {n : Nat} {b : M Fl} {ds : List D} {w w' : W} (h : b ⟨args n ds, w.st⟩ = .ok .nx w') (hs : w'.st = w.st) : fnD n b ds w = .ok .non w := by
  simp only [fnD, h, hs]
end Dl



set_option Elab.async false
set_option linter.all false
set_option maxRecDepth 100000
set_option maxHeartbeats 0
namespace LawT
open PySem PySem.Spec PyProof.Rows L2 Dl
def top (i : Nat) : Stmt := PySem.Challenge.pw_liarpost_k12_whatever_the_question.main.body.getD i (.Pass ⟨0, 0, 0, 0⟩)
abbrev s_is_number : Stmt := top 9
abbrev s_need_number : Stmt := top 10
abbrev s_is_text : Stmt := top 11
abbrev s_need_text : Stmt := top 12
abbrev s_is_lot : Stmt := top 15
abbrev s_need_plan : Stmt := top 16
abbrev s_row_for : Stmt := top 17
abbrev s_rows_of : Stmt := top 18
abbrev s_common_of : Stmt := top 19
abbrev s_need_faults : Stmt := top 20
abbrev s_is_row : Stmt := top 21
abbrev s_need_post : Stmt := top 22
abbrev s_comes_of : Stmt := top 23
abbrev s_can_come : Stmt := top 24
abbrev s_need_count : Stmt := top 27
abbrev s_heard_of : Stmt := top 28
abbrev s_are_free : Stmt := top 29
abbrev s_first_of : Stmt := top 30
abbrev s_first_alike : Stmt := top 31
abbrev s_alike : Stmt := top 32
abbrev s__law_taken : Stmt := top 34
abbrev s__law_plan : Stmt := top 35
abbrev s__law_texts : Stmt := top 36
abbrev s__law_rows : Stmt := top 37
abbrev s__law_starts : Stmt := top 38
abbrev s__law_joined : Stmt := top 39
abbrev s__law_pick : Stmt := top 40
abbrev s__law_common : Stmt := top 41
abbrev s__law_steps : Stmt := top 42
abbrev s__law_shared : Stmt := top 43
abbrev s_law : Stmt := top 44
abbrev FnP (K : PySem.W.Frag) (x : Str) (st : Stmt) (f : Addr) (fd : FuncData) : Prop := FunD K x x (defArgs st) (defBody st) (defScope st) [] [] f fd
/-! ### what they compute -/
def dn_is_number : M Fl := (sRet (eAn (M.bnd (eV 0) (isiF .int)) (eAn (eNo (M.bnd (eV 0) (isiF .bool))) (eCh leD leD (eV 1) (eV 0) (eV 2)))))
def dn_need_number : M Fl := (sIf (tNo (tT (M.bnd (lC (eV 0) (lC (eV 1) (lC (eV 2) lN))) (fnD 3 dn_is_number)))) M.no sPass)
def dn_is_text : M Fl := (sSeq (sIf (tOr' (tNo (tT (M.bnd (eV 1) (isiF .tup)))) (tT (eB gtD (M.bnd (eV 1) lenF) (eC (.int 40))))) (sRet (eC (.bl false))) sPass) (sRet (eAll true [2] (iSq (eV 1)) (setF 2) cY (M.bnd (lC (eV 2) (lC (eC (.int 0)) (lC (eB subD (eV 0) (eC (.int 1))) lN))) (fnD 3 dn_is_number)))))
def dn_need_text : M Fl := (sIf (tNo (tT (M.bnd (lC (eV 0) (lC (eV 1) lN)) (fnD 3 dn_is_text)))) M.no sPass)
def dn_is_lot : M Fl := (sSeq (sIf (tOr' (tNo (tT (M.bnd (eV 1) (isiF .tup)))) (tNo (tT (eAll true [2] (iSq (eV 1)) (setF 2) cY (M.bnd (lC (eV 2) (lC (eC (.int 0)) (lC (eB subD (eV 0) (eC (.int 1))) lN))) (fnD 3 dn_is_number)))))) (sRet (eC (.bl false))) sPass) (sRet (eAll true [2, 3] (iRg zpD (lC (eV 1) (lC (eSl (eV 1) (oI (eC (.int 1))) oN) lN))) (tgT (tgC (setF 2) (tgC (setF 3) tgN)) 2) cY (eB ltD (eV 2) (eV 3)))))
def dn_need_plan : M Fl := (sSeq (sIf (tOr' (tNo (tT (M.bnd (eV 0) (isiF .tup)))) (tT (eB neD (M.bnd (eV 0) lenF) (eC (.int 2))))) M.no sPass) (sSeq (sAsg (tgT (tgC (setF 1) (tgC (setF 2) tgN)) 2) (eV 0)) (sSeq (sIf (tNo (tT (M.bnd (lC (eV 1) (lC (eC (.int 1)) (lC (eC (.int 7)) lN))) (fnD 3 dn_is_number)))) M.no sPass) (sSeq (sIf (tOr' (tNo (tT (M.bnd (eV 2) (isiF .tup)))) (tNo (tT (eCh leD leD (eC (.int 1)) (M.bnd (eV 2) lenF) (eC (.int 5)))))) M.no sPass) (sIf (tNo (tT (eAll true [3] (iSq (eV 2)) (setF 3) cY (M.bnd (lC (eV 1) (lC (eV 3) lN)) (fnD 4 dn_is_lot))))) M.no sPass)))))
def dn_row_for : M Fl := (sRet (M.bnd (eLc [3] (iSq (eV 1)) (setF 3) (tT (eB (inD false) (eV 2) (eB ixD (eB ixD (eV 0) (eC (.int 1))) (eV 3)))) (eV 3)) tupleF))
def dn_rows_of : M Fl := (sRet (M.bnd (eLc [2] (iRg r1D (lC (eB ixD (eV 0) (eC (.int 0))) lN)) (setF 2) cY (M.bnd (lC (eV 0) (lC (eV 1) (lC (eV 2) lN))) (fnD 4 dn_row_for))) tupleF))
def dn_common_of : M Fl := (sRet (M.bnd (eLc [3] (iSq (eB ixD (eB ixD (eV 0) (eC (.int 1))) (eV 1))) (setF 3) (tT (eB (inD false) (eV 3) (eB ixD (eB ixD (eV 0) (eC (.int 1))) (eV 2)))) (eV 3)) tupleF))
def dn_need_faults : M Fl := (sSeq (sE (M.bnd (lC (eV 0) (lC (eC (.int 0)) (lC (eC (.int 7)) lN))) (fnD 3 dn_need_number))) (sE (M.bnd (lC (eV 1) (lC (eC (.int 0)) (lC (eC (.int 7)) lN))) (fnD 3 dn_need_number))))
def dn_is_row : M Fl := (sSeq (sIf (tNo (tT (M.bnd (lC (M.bnd (eB ixD (eV 0) (eC (.int 1))) lenF) (lC (eV 2) lN)) (fnD 3 dn_is_text)))) (sRet (eC (.bl false))) sPass) (sRet (eAll true [3] (iSq (eV 2)) (setF 3) cY (eB (inD false) (eV 1) (eB ixD (eB ixD (eV 0) (eC (.int 1))) (eV 3))))))
def dn_need_post : M Fl := (sSeq (sIf (tOr' (tNo (tT (M.bnd (eV 1) (isiF .tup)))) (tT (eB neD (M.bnd (eV 1) lenF) (eB ixD (eV 0) (eC (.int 0)))))) M.no sPass) (sFor (iRg enD (lC (eV 1) lN)) (tgT (tgC (setF 2) (tgC (setF 3) tgN)) 2) (sIf (tNo (tT (M.bnd (lC (eV 0) (lC (eV 2) (lC (eV 3) lN))) (fnD 4 dn_is_row)))) M.no sPass)))
def dn_comes_of : M Fl := (sSeq (sAsg (tgT (tgC (setF 5) (tgC (setF 6) tgN)) 2) (eTu (lC (eC (.int 0)) (lC (eC (.int 0)) lN)))) (sSeq (sFor (iRg enD (lC (M.bnd (lC (eV 0) (lC (eV 3) lN)) (fnD 3 dn_rows_of)) lN)) (tgT (tgC (setF 7) (tgC (setF 8) tgN)) 2) (sIf (tT (eB neD (eB ixD (eV 4) (eV 7)) (eV 8))) (sSeq (sAug 5 addI (eC (.int 1))) (sAug 6 addI (eB eqD (eB ixD (eV 4) (eV 7)) (eSl (eV 8) oN (oI (M.bnd (eB ixD (eV 4) (eV 7)) lenF)))))) sPass)) (sRet (eB leD (eB subD (eV 5) (M.bnd (lC (eV 2) (lC (eV 6) lN)) minF)) (eV 1)))))
def dn_can_come : M Fl := (sSeq (sE (M.bnd (lC (eV 0) lN) (fnD 4 dn_need_plan))) (sSeq (sE (M.bnd (lC (eV 1) (lC (eV 2) lN)) (fnD 2 dn_need_faults))) (sSeq (sE (M.bnd (lC (M.bnd (eB ixD (eV 0) (eC (.int 1))) lenF) (lC (eV 3) lN)) (fnD 2 dn_need_text))) (sSeq (sE (M.bnd (lC (eV 0) (lC (eV 4) lN)) (fnD 4 dn_need_post))) (sRet (M.bnd (lC (eV 0) (lC (eV 1) (lC (eV 2) (lC (eV 3) (lC (eV 4) lN))))) (fnD 9 dn_comes_of)))))))
def dn_need_count : M Fl := (sE (M.bnd (lC (eV 0) (lC (eC (.int 1)) (lC (eC (.int 22)) lN))) (fnD 3 dn_need_number)))
def dn_heard_of : M Fl := (sRet (eLc [2, 3] (iRg enD (lC (eB ixD (eV 0) (eC (.int 1))) lN)) (tgT (tgC (setF 2) (tgC (setF 3) tgN)) 2) (tT (eB geD (M.bnd (eV 3) lenF) (eV 1))) (eV 2)))
def dn_are_free : M Fl := (sRet (eAn (eB neD (eV 2) (eV 3)) (eB ltD (M.bnd (M.bnd (lC (eV 0) (lC (eV 2) (lC (eV 3) lN))) (fnD 4 dn_common_of)) lenF) (eV 1))))
def dn_first_of : M Fl := (sSeq (sSet 3 (M.bnd (lC (eV 0) (lC (eV 1) lN)) (fnD 4 dn_heard_of))) (sSeq (sPair true true 4 5 (eLc [8] (iSq (eV 2)) (setF 8) (tT (eB (inD false) (eV 8) (eV 3))) (eV 8)) (eLs lN)) (sSeq (whileL (M.bnd (eP 4) truN) (sSeq (sSet 6 (eLc [7] (iRg r1D (lC (M.bnd (eP 4) lenF) lN)) (setF 7) (tT (eAll true [9] (iSq (eSlV 4 oN (oI (eV 7)))) (setF 9) cY (M.bnd (lC (eV 0) (lC (eV 1) (lC (eBV ixD 4 (eV 7)) (lC (eV 9) lN)))) (fnD 4 dn_are_free)))) (eV 7))) (sSeq (sSet 7 (eMinK 7 (eV 6) (eBV ixD 4 (eV 7)))) (sE (ownL 5 (ownL 4 (eV 7) popK) appK)))) 64) (sRet (M.bnd (eP 5) tupleL)))))
def dn_first_alike : M Fl := (sSeq (sE (M.bnd (lC (eV 0) lN) (fnD 4 dn_need_plan))) (sSeq (sE (M.bnd (lC (eV 1) lN) (fnD 1 dn_need_count))) (sSeq (sE (M.bnd (lC (M.bnd (eB ixD (eV 0) (eC (.int 1))) lenF) (lC (eV 2) lN)) (fnD 2 dn_need_text))) (sRet (M.bnd (lC (eV 0) (lC (eV 1) (lC (eV 2) lN))) (fnD 10 dn_first_of))))))
def dn_alike : M Fl := (sSeq (sE (M.bnd (lC (eV 0) lN) (fnD 4 dn_need_plan))) (sSeq (sE (M.bnd (lC (eV 1) lN) (fnD 1 dn_need_count))) (sSeq (sE (M.bnd (lC (M.bnd (eB ixD (eV 0) (eC (.int 1))) lenF) (lC (eV 2) lN)) (fnD 2 dn_need_text))) (sSeq (sE (M.bnd (lC (M.bnd (eB ixD (eV 0) (eC (.int 1))) lenF) (lC (eV 3) lN)) (fnD 2 dn_need_text))) (sRet (eB eqD (M.bnd (lC (eV 0) (lC (eV 1) (lC (eV 2) lN))) (fnD 10 dn_first_of)) (M.bnd (lC (eV 0) (lC (eV 1) (lC (eV 3) lN))) (fnD 10 dn_first_of))))))))
def dn__law_taken : M Fl := (sSeq (sIf (tT (eB gtD (eIxS (eV 0) (eC (.int 3))) (eC (.int 0)))) (sSeq (sSet 2 (eB modD (M.bnd (eIxS (eV 0) (eC (.int 3))) intF) (eV 1))) (sSeq (sAsg (tgS (eV 0) (eC (.int 3))) (eB fdivD (eIxS (eV 0) (eC (.int 3))) (eV 1))) (sRet (eV 2)))) sPass) (sSeq (sAsg (tgS (eV 0) (eC (.int 1))) (eB addD (eIxS (eV 0) (eC (.int 1))) (eC (.int 1)))) (sSeq (sIf (tT (eB gtD (eIxS (eV 0) (eC (.int 1))) (M.bnd (eIxS (eV 0) (eC (.int 0))) lenF))) (sSeq (sAsg (tgS (eV 0) (eC (.int 2))) (eB modD (M.bnd (eB addD (eB mulD (eIxS (eV 0) (eC (.int 2))) (eC (.int 48271))) (eC (.int 11))) intF) (eC (.int 2147483647)))) (sRet (eB modD (M.bnd (eB fdivD (eIxS (eV 0) (eC (.int 2))) (eC (.int 7))) intF) (eV 1)))) sPass) (sSeq (sSet 3 (eB ixD (eIxS (eV 0) (eC (.int 0))) (eB subD (eIxS (eV 0) (eC (.int 1))) (eC (.int 1))))) (sSeq (sAsg (tgS (eV 0) (eC (.int 2))) (eB modD (M.bnd (eB addD (eB addD (eB mulD (eIxS (eV 0) (eC (.int 2))) (eC (.int 48271))) (eV 3)) (eC (.int 11))) intF) (eC (.int 2147483647)))) (sSeq (sIf (tT (eB geD (eV 3) (eB powD (eC (.int 10)) (eC (.int 18))))) (sAsg (tgS (eV 0) (eC (.int 3))) (eB fdivD (eV 3) (eV 1))) sPass) (sRet (eB modD (M.bnd (eV 3) intF) (eV 1)))))))))
def dn__law_plan : M Fl := (sSeq (sPair false true 3 4 (eB addD (eC (.int 1)) (M.bnd (lC (eV 0) (lC (eV 2) lN)) (fnD 4 dn__law_taken))) (eLs lN)) (sSeq (sFor (iRg r1D (lC (eV 1) lN)) (setF 5) (sE (ownL 4 (M.bnd (eLc [6] (iRg r1D (lC (eV 3) lN)) (setF 6) (tT (eB gtD (M.bnd (lC (eV 0) (lC (eC (.int 3)) lN)) (fnD 4 dn__law_taken)) (eC (.int 0)))) (eV 6)) tupleF) appK))) (sRet (eTu (lC (eV 3) (lC (M.bnd (eP 4) tupleL) lN))))))
def dn__law_texts : M Fl := (sSeq (sPair false false 2 3 (eLs (lC (eTu lN) lN)) (eLs (lC (eTu lN) lN))) (sSeq (sFor (iRg r1D (lC (eV 1) lN)) (setF 4) (sSeq (sSet 5 (eLs lN)) (sSeq (sFor (iSq (eV 3)) (setF 6) (sSet 5 (eB addD (eV 5) (eLc [7] (iRg r1D (lC (eV 0) lN)) (setF 7) cY (eB addD (eV 6) (eTu (lC (eV 7) lN))))))) (sPair false false 2 3 (eB addD (eV 2) (eV 5)) (eV 5))))) (sRet (eV 2))))
def dn__law_rows : M Fl := (sSeq (sOwn 2 (eLs lN)) (sSeq (sFor (iRg r1D (lC (eB ixD (eV 0) (eC (.int 0))) lN)) (setF 3) (sE (ownL 2 (M.bnd (eLc [4] (iSq (eV 1)) (setF 4) (tT (eB (inD false) (eV 3) (eB ixD (eB ixD (eV 0) (eC (.int 1))) (eV 4)))) (eV 4)) tupleF) appK))) (sRet (M.bnd (eP 2) tupleL))))
def dn__law_starts : M Fl := (sRet (eAn (eB leD (M.bnd (eV 0) lenF) (M.bnd (eV 1) lenF)) (eB eqD (eSl (eV 1) oN (oI (M.bnd (eV 0) lenF))) (eV 0))))
def dn__law_joined : M Fl := (sSeq (sAsg (tgT (tgC (setF 4) (tgC (setF 5) (tgC (setF 6) tgN))) 3) (eTu (lC (eC (.int 0)) (lC (eC (.int 0)) (lC (eC (.int 0)) lN))))) (sSeq (sFor (iRg zpD (lC (eV 0) (lC (eV 1) lN))) (tgT (tgC (setF 7) (tgC (setF 8) tgN)) 2) (sIf (tT (eB neD (eV 7) (eV 8))) (sIf (tT (M.bnd (lC (eV 8) (lC (eV 7) lN)) (fnD 2 dn__law_starts))) (sSet 4 (eB addD (eV 4) (eC (.int 1)))) (sIf (tT (M.bnd (lC (eV 7) (lC (eV 8) lN)) (fnD 2 dn__law_starts))) (sSet 5 (eB addD (eV 5) (eC (.int 1)))) (sSet 6 (eB addD (eV 6) (eC (.int 1)))))) sPass)) (sSeq (sFor (iRg r1D (lC (eB addD (M.bnd (lC (eV 4) (lC (eV 3) lN)) minF) (eC (.int 1))) lN)) (setF 9) (sFor (iRg r1D (lC (eB addD (M.bnd (lC (eV 5) (lC (eV 3) lN)) minF) (eC (.int 1))) lN)) (setF 10) (sSeq (sSet 11 (M.bnd (lC (eB subD (eV 3) (eV 9)) (lC (eB subD (eV 3) (eV 10)) (lC (eB subD (eB subD (eB addD (eB addD (eV 4) (eV 5)) (eV 6)) (eV 9)) (eV 10)) lN))) min3F)) (sIf (tT (eB leD (eB subD (eB subD (eB subD (eB addD (eB addD (eV 4) (eV 5)) (eV 6)) (eV 9)) (eV 10)) (eV 11)) (eB mulD (eC (.int 2)) (eV 2)))) (sRet (eC (.bl true))) sPass)))) (sRet (eC (.bl false))))))
def dn__law_pick : M Fl := (sRet (eB ixD (eV 1) (M.bnd (lC (eV 0) (lC (M.bnd (eV 1) lenF) lN)) (fnD 4 dn__law_taken))))
def dn__law_common : M Fl := (sRet (eLc [3] (iSq (eB ixD (eB ixD (eV 0) (eC (.int 1))) (eV 1))) (setF 3) (tT (eB (inD false) (eV 3) (eB ixD (eB ixD (eV 0) (eC (.int 1))) (eV 2)))) (eV 3)))
def dn__law_steps : M Fl := (sSeq (sOwn 3 (eLs lN)) (sSeq (sFor (iRg r1D (lC (M.bnd (eV 2) lenF) lN)) (setF 4) (sSeq (sIf (tT (eB ltD (M.bnd (eB ixD (eB ixD (eV 0) (eC (.int 1))) (eB ixD (eV 2) (eV 4))) lenF) (eV 1))) (sE (ownL 3 (eB addD (eSl (eV 2) oN (oI (eV 4))) (eSl (eV 2) (oI (eB addD (eV 4) (eC (.int 1)))) oN)) appK)) sPass) (sIf (tAn (tT (eB gtD (eV 4) (eC (.int 0)))) (tAn (tT (eB neD (eB ixD (eV 2) (eB subD (eV 4) (eC (.int 1)))) (eB ixD (eV 2) (eV 4)))) (tT (eB ltD (M.bnd (M.bnd (lC (eV 0) (lC (eB ixD (eV 2) (eB subD (eV 4) (eC (.int 1)))) (lC (eB ixD (eV 2) (eV 4)) lN))) (fnD 4 dn__law_common)) lenF) (eV 1))))) (sE (ownL 3 (eB addD (eB addD (eSl (eV 2) oN (oI (eB subD (eV 4) (eC (.int 1))))) (eTu (lC (eB ixD (eV 2) (eV 4)) (lC (eB ixD (eV 2) (eB subD (eV 4) (eC (.int 1)))) lN)))) (eSl (eV 2) (oI (eB addD (eV 4) (eC (.int 1)))) oN)) appK)) sPass))) (sRet (eV 3))))
def dn__law_shared : M Fl := (sSeq (sPair false false 5 6 (M.bnd (lC (eV 0) (lC (eV 3) lN)) (fnD 5 dn__law_rows)) (M.bnd (lC (eV 0) (lC (eV 4) lN)) (fnD 5 dn__law_rows))) (sSeq (sPair true false 7 8 (eLs lN) (eC (.int 0))) (sSeq (sFor (iRg zpD (lC (eV 5) (lC (eV 6) lN))) (tgT (tgC (setF 9) (tgC (setF 10) tgN)) 2) (sIf (tT (eB eqD (eV 9) (eV 10))) (sE (ownL 7 (eV 9) appK)) (sSeq (sSet 11 (eC (.int 0))) (sSeq (whileL (tAn (tT (eB eqD (eSl (eV 9) oN (oI (eB addD (eV 11) (eC (.int 1))))) (eSl (eV 10) oN (oI (eB addD (eV 11) (eC (.int 1))))))) (tT (eB ltD (eV 11) (M.bnd (lC (M.bnd (eV 9) lenF) (lC (M.bnd (eV 10) lenF) lN)) minF)))) (sSet 11 (eB addD (eV 11) (eC (.int 1)))) 64) (sSeq (sE (ownL 7 (eIf (tT (eB ltD (eV 8) (eB mulD (eC (.int 2)) (eV 1)))) (eB ixD (eLs (lC (eV 10) (lC (eV 9) lN))) (M.bnd (eB geD (eV 8) (eV 1)) intF)) (eSl (eV 9) oN (oI (eV 11)))) appK)) (sSet 8 (eB addD (eV 8) (eC (.int 1))))))))) (sRet (M.bnd (eP 7) tupleL)))))
def dn_law : M Fl := (sSeq (sNew 1 (eLs (lC (eV 0) (lC (eC (.int 0)) (lC (eC (.int 912)) (lC (eC (.int 0)) lN)))))) (sSeq (sSet 2 (eB addD (eC (.int 1)) (M.bnd (lC (eV 1) (lC (eC (.int 3)) lN)) (fnD 4 dn__law_taken)))) (sSeq (sAsg (tgT (tgC (setF 3) (tgC (setF 4) (tgC (setF 5) tgN))) 3) (eTu (lC (M.bnd (lC (eV 1) (lC (eV 2) (lC (eC (.int 5)) lN))) (fnD 7 dn__law_plan)) (lC (M.bnd (lC (eV 1) (lC (eC (.int 3)) lN)) (fnD 4 dn__law_taken)) (lC (M.bnd (lC (eV 1) (lC (eC (.int 3)) lN)) (fnD 4 dn__law_taken)) lN))))) (sSeq (sSet 6 (eB addD (eB addD (eB mulD (eC (.int 2)) (eV 4)) (eV 5)) (eC (.int 1)))) (sSeq (sSet 7 (M.bnd (lC (eV 2) (lC (eIf (tT (eB ltD (eV 2) (eC (.int 3)))) (eC (.int 4)) (eC (.int 3))) lN)) (fnD 8 dn__law_texts))) (sSeq (sSet 8 (eLc [12] (iSq (eV 7)) (setF 12) cY (M.bnd (lC (eV 3) (lC (eV 12) lN)) (fnD 5 dn__law_rows)))) (sSeq (sFor (iRg r1D (lC (eC (.int 60)) lN)) (setF 9) (sSeq (sPair false false 10 11 (M.bnd (lC (eV 1) (lC (M.bnd (eV 7) lenF) lN)) (fnD 4 dn__law_taken)) (M.bnd (lC (eV 1) (lC (M.bnd (eV 7) lenF) lN)) (fnD 4 dn__law_taken))) (sIf (tAn (tT (M.bnd (lC (eB ixD (eV 8) (eV 10)) (lC (eB ixD (eV 8) (eV 11)) (lC (eV 4) (lC (eV 5) lN)))) (fnD 12 dn__law_joined))) (tNo (tT (M.bnd (lC (eV 3) (lC (eV 6) (lC (eB ixD (eV 7) (eV 10)) (lC (eB ixD (eV 7) (eV 11)) lN)))) (fnD 4 dn_alike))))) (sRet (eC (.bl false))) sPass))) (sSeq (sSet 12 (M.bnd (lC (eV 1) (lC (eV 7) lN)) (fnD 2 dn__law_pick))) (sSeq (sFor (iSq (M.bnd (lC (eV 3) (lC (eV 6) (lC (eV 12) lN))) (fnD 5 dn__law_steps))) (setF 13) (sSeq (sIf (tOr' (tNo (tT (M.bnd (lC (eV 3) (lC (eV 6) (lC (eV 12) (lC (eV 13) lN)))) (fnD 4 dn_alike)))) (tT (eB neD (M.bnd (lC (eV 3) (lC (eV 6) (lC (eV 12) lN))) (fnD 3 dn_first_alike)) (M.bnd (lC (eV 3) (lC (eV 6) (lC (eV 13) lN))) (fnD 3 dn_first_alike))))) (sRet (eC (.bl false))) sPass) (sSeq (sSet 14 (M.bnd (lC (eV 3) (lC (eV 4) (lC (eV 5) (lC (eV 12) (lC (eV 13) lN))))) (fnD 12 dn__law_shared))) (sIf (tOr' (tNo (tT (M.bnd (lC (eV 3) (lC (eV 4) (lC (eV 5) (lC (eV 12) (lC (eV 14) lN))))) (fnD 5 dn_can_come)))) (tNo (tT (M.bnd (lC (eV 3) (lC (eV 4) (lC (eV 5) (lC (eV 13) (lC (eV 14) lN))))) (fnD 5 dn_can_come))))) (sRet (eC (.bl false))) sPass)))) (sRet (eC (.bl true))))))))))))
/-! ### the facts -/
structure Law (w : World) (K : PySem.W.Frag) (mg : Str → Option Value) (base : Heap) (g : Gm) : Type where
  hw : w = g.w
  hK : K = g.K
  a_is_number : Addr
  fd_is_number : FuncData
  F_is_number : FnP K "is_number" s_is_number a_is_number fd_is_number
  m_is_number : mg "is_number" = some (.ref a_is_number)
  a_need_number : Addr
  fd_need_number : FuncData
  F_need_number : FnP K "need_number" s_need_number a_need_number fd_need_number
  m_need_number : mg "need_number" = some (.ref a_need_number)
  a_is_text : Addr
  fd_is_text : FuncData
  F_is_text : FnP K "is_text" s_is_text a_is_text fd_is_text
  m_is_text : mg "is_text" = some (.ref a_is_text)
  t_is_text : Tb base mg g fd_is_text
  a_need_text : Addr
  fd_need_text : FuncData
  F_need_text : FnP K "need_text" s_need_text a_need_text fd_need_text
  m_need_text : mg "need_text" = some (.ref a_need_text)
  a_is_lot : Addr
  fd_is_lot : FuncData
  F_is_lot : FnP K "is_lot" s_is_lot a_is_lot fd_is_lot
  m_is_lot : mg "is_lot" = some (.ref a_is_lot)
  t_is_lot : Tb base mg g fd_is_lot
  a_need_plan : Addr
  fd_need_plan : FuncData
  F_need_plan : FnP K "need_plan" s_need_plan a_need_plan fd_need_plan
  m_need_plan : mg "need_plan" = some (.ref a_need_plan)
  t_need_plan : Tb base mg g fd_need_plan
  a_row_for : Addr
  fd_row_for : FuncData
  F_row_for : FnP K "row_for" s_row_for a_row_for fd_row_for
  m_row_for : mg "row_for" = some (.ref a_row_for)
  a_rows_of : Addr
  fd_rows_of : FuncData
  F_rows_of : FnP K "rows_of" s_rows_of a_rows_of fd_rows_of
  m_rows_of : mg "rows_of" = some (.ref a_rows_of)
  a_common_of : Addr
  fd_common_of : FuncData
  F_common_of : FnP K "common_of" s_common_of a_common_of fd_common_of
  m_common_of : mg "common_of" = some (.ref a_common_of)
  a_need_faults : Addr
  fd_need_faults : FuncData
  F_need_faults : FnP K "need_faults" s_need_faults a_need_faults fd_need_faults
  m_need_faults : mg "need_faults" = some (.ref a_need_faults)
  a_is_row : Addr
  fd_is_row : FuncData
  F_is_row : FnP K "is_row" s_is_row a_is_row fd_is_row
  m_is_row : mg "is_row" = some (.ref a_is_row)
  t_is_row : Tb base mg g fd_is_row
  a_need_post : Addr
  fd_need_post : FuncData
  F_need_post : FnP K "need_post" s_need_post a_need_post fd_need_post
  m_need_post : mg "need_post" = some (.ref a_need_post)
  a_comes_of : Addr
  fd_comes_of : FuncData
  F_comes_of : FnP K "comes_of" s_comes_of a_comes_of fd_comes_of
  m_comes_of : mg "comes_of" = some (.ref a_comes_of)
  a_can_come : Addr
  fd_can_come : FuncData
  F_can_come : FnP K "can_come" s_can_come a_can_come fd_can_come
  m_can_come : mg "can_come" = some (.ref a_can_come)
  a_need_count : Addr
  fd_need_count : FuncData
  F_need_count : FnP K "need_count" s_need_count a_need_count fd_need_count
  m_need_count : mg "need_count" = some (.ref a_need_count)
  a_heard_of : Addr
  fd_heard_of : FuncData
  F_heard_of : FnP K "heard_of" s_heard_of a_heard_of fd_heard_of
  m_heard_of : mg "heard_of" = some (.ref a_heard_of)
  a_are_free : Addr
  fd_are_free : FuncData
  F_are_free : FnP K "are_free" s_are_free a_are_free fd_are_free
  m_are_free : mg "are_free" = some (.ref a_are_free)
  a_first_of : Addr
  fd_first_of : FuncData
  F_first_of : FnP K "first_of" s_first_of a_first_of fd_first_of
  m_first_of : mg "first_of" = some (.ref a_first_of)
  t_first_of : Tb base mg g fd_first_of
  a_first_alike : Addr
  fd_first_alike : FuncData
  F_first_alike : FnP K "first_alike" s_first_alike a_first_alike fd_first_alike
  m_first_alike : mg "first_alike" = some (.ref a_first_alike)
  a_alike : Addr
  fd_alike : FuncData
  F_alike : FnP K "alike" s_alike a_alike fd_alike
  m_alike : mg "alike" = some (.ref a_alike)
  a__law_taken : Addr
  fd__law_taken : FuncData
  F__law_taken : FnP K "_law_taken" s__law_taken a__law_taken fd__law_taken
  m__law_taken : mg "_law_taken" = some (.ref a__law_taken)
  a__law_plan : Addr
  fd__law_plan : FuncData
  F__law_plan : FnP K "_law_plan" s__law_plan a__law_plan fd__law_plan
  m__law_plan : mg "_law_plan" = some (.ref a__law_plan)
  a__law_texts : Addr
  fd__law_texts : FuncData
  F__law_texts : FnP K "_law_texts" s__law_texts a__law_texts fd__law_texts
  m__law_texts : mg "_law_texts" = some (.ref a__law_texts)
  a__law_rows : Addr
  fd__law_rows : FuncData
  F__law_rows : FnP K "_law_rows" s__law_rows a__law_rows fd__law_rows
  m__law_rows : mg "_law_rows" = some (.ref a__law_rows)
  a__law_starts : Addr
  fd__law_starts : FuncData
  F__law_starts : FnP K "_law_starts" s__law_starts a__law_starts fd__law_starts
  m__law_starts : mg "_law_starts" = some (.ref a__law_starts)
  a__law_joined : Addr
  fd__law_joined : FuncData
  F__law_joined : FnP K "_law_joined" s__law_joined a__law_joined fd__law_joined
  m__law_joined : mg "_law_joined" = some (.ref a__law_joined)
  a__law_pick : Addr
  fd__law_pick : FuncData
  F__law_pick : FnP K "_law_pick" s__law_pick a__law_pick fd__law_pick
  m__law_pick : mg "_law_pick" = some (.ref a__law_pick)
  a__law_common : Addr
  fd__law_common : FuncData
  F__law_common : FnP K "_law_common" s__law_common a__law_common fd__law_common
  m__law_common : mg "_law_common" = some (.ref a__law_common)
  a__law_steps : Addr
  fd__law_steps : FuncData
  F__law_steps : FnP K "_law_steps" s__law_steps a__law_steps fd__law_steps
  m__law_steps : mg "_law_steps" = some (.ref a__law_steps)
  a__law_shared : Addr
  fd__law_shared : FuncData
  F__law_shared : FnP K "_law_shared" s__law_shared a__law_shared fd__law_shared
  m__law_shared : mg "_law_shared" = some (.ref a__law_shared)
  a_law : Addr
  fd_law : FuncData
  F_law : FnP K "law" s_law a_law fd_law
  m_law : mg "law" = some (.ref a_law)
  b_all : mg "all" = none
  b_bool : mg "bool" = none
  b_enumerate : mg "enumerate" = none
  b_int : mg "int" = none
  b_isinstance : mg "isinstance" = none
  b_len : mg "len" = none
  b_min : mg "min" = none
  b_range : mg "range" = none
  b_tuple : mg "tuple" = none
  b_zip : mg "zip" = none
  i_MOST_COUNT : ∃ t, mg "MOST_COUNT" = some (.int 22 t)
  i_MOST_LETTERS : ∃ t, mg "MOST_LETTERS" = some (.int 5 t)
  i_MOST_MESSENGERS : ∃ t, mg "MOST_MESSENGERS" = some (.int 7 t)
  i_MOST_TEXT : ∃ t, mg "MOST_TEXT" = some (.int 40 t)
variable {P : Program} {w : World} {K : PySem.W.Frag} {mg : Str → Option Value} {base : Heap} {g : Gm}
theorem sc_is_number : FnScope ["value", "low", "high"] ["value", "low", "high"] (defScope s_is_number) := ⟨rfl, rfl, rfl, by decide +kernel, rfl, by decide +kernel, by decide +kernel⟩
theorem bn_is_number (Z : Law w K mg base g) : Binds K Z.fd_is_number ["value", "low", "high"] [] := Z.F_is_number.bindsN fun _ _ _ _ _ _ us hl => match us, hl with | [_, _, _], _ => rfl
theorem ok_is_number (Z : Law w K mg base g) : FnOk P w K mg base (L2.CX P w) 1 Z.a_is_number Z.fd_is_number ["value", "low", "high"] (spD g 3 3 dn_is_number) :=
  fn_okD Z.F_is_number sc_is_number rfl rfl Z.hw Z.hK fun cdv A outer s H E Γ e hr hg ho => by have z : Cz _ Γ g 0 := ⟨hg, ho, hr⟩; exact (db_one (ds_ret (de_and (de_isi .int nofun z.o.w rfl Z.b_isinstance bb_isinstance rfl Z.b_int bb_int (de_var (i := 0))) (de_and (de_not (de_isi .bool nofun z.o.w rfl Z.b_isinstance bb_isinstance rfl Z.b_bool bb_bool (de_var (i := 0)))) (de_one (de_chain op_le op_le opd_cmp opd_cmp (de_var (i := 1)) (de_var (i := 0)) (de_var (i := 2))))))))
theorem sc_need_number : FnScope ["value", "low", "high"] ["value", "low", "high"] (defScope s_need_number) := ⟨rfl, rfl, rfl, by decide +kernel, rfl, by decide +kernel, by decide +kernel⟩
theorem bn_need_number (Z : Law w K mg base g) : Binds K Z.fd_need_number ["value", "low", "high"] [] := Z.F_need_number.bindsN fun _ _ _ _ _ _ us hl => match us, hl with | [_, _, _], _ => rfl
theorem ok_need_number (Z : Law w K mg base g) : FnOk P w K mg base (L2.CX P w) 2 Z.a_need_number Z.fd_need_number ["value", "low", "high"] (spD g 3 3 dn_need_number) :=
  fn_okD Z.F_need_number sc_need_number rfl rfl Z.hw Z.hK fun cdv A outer s H E Γ e hr hg ho => by have z : Cz _ Γ g 1 := ⟨hg, ho, hr⟩; exact (db_one (ds_if (dt_not (dt_bool (de_callG (ok_is_number Z) z.hg z.o (z.r.mono (by decide)) Z.m_is_number Z.F_is_number.kp (bn_is_number Z) (len_cons (len_cons (len_cons len_nil))) rfl (da_cons (de_var (i := 0)) (da_cons (de_var (i := 1)) (da_cons (de_var (i := 2)) da_nil)))))) (db_one ds_no) db_nil))
theorem sc_is_text : FnScope ["letters", "value", "letter"] ["letters", "value"] (defScope s_is_text) := ⟨rfl, rfl, rfl, by decide +kernel, rfl, by decide +kernel, by decide +kernel⟩
theorem bn_is_text (Z : Law w K mg base g) : Binds K Z.fd_is_text ["letters", "value"] [] := Z.F_is_text.bindsN fun _ _ _ _ _ _ us hl => match us, hl with | [_, _], _ => rfl
theorem ok_is_text (Z : Law w K mg base g) : FnOk P w K mg base (L2.CX P w) 3 Z.a_is_text Z.fd_is_text ["letters", "value"] (spD g 2 3 dn_is_text) :=
  fn_okD Z.F_is_text sc_is_text rfl rfl Z.hw Z.hK fun cdv A outer s H E Γ e hr hg ho => by have z : Cz _ Γ g 2 := ⟨hg, ho, hr⟩; have ht := hasTab_o ho Z.t_is_text e hg; exact (db_cons (ds_if (dw_dt (dw_or (dt_not (dt_bool (de_isi .tup nofun z.o.w rfl Z.b_isinstance bb_isinstance rfl Z.b_tuple bb_tuple (de_var (i := 1))))) (dw_or1 (dt_gt (de_len z.o.K rfl Z.b_len (DE.dp (de_var (i := 1)))) (de_gint rfl Z.i_MOST_TEXT.choose_spec))))) (db_one (ds_ret de_bl)) db_nil) (db_one (ds_ret (de_all rfl z.r sc_is_text.nd rfl Z.b_all ht (genOk_by (own := [("letter", 2)]) rfl) (vs := [2]) (ks := [2]) rfl (by decide) (di_seq (de_var (i := 1))) (fun s H cl C code bi fp pn G10 e11 => in_gen_k z e11 fun z8 => (dk_name sc_is_text.nd rfl (Or.inl rfl))) (fun s H cl C code bi fp pn G12 e13 => in_gen_c z e13 fun z8 => dc_nil) (fun s H cl C code bi fp pn G14 e15 => in_gen_e z e15 fun z8 => (de_callG (ok_is_number Z) z8.hg z8.o (z8.r.mono (by decide)) Z.m_is_number Z.F_is_number.kp (bn_is_number Z) (len_cons (len_cons (len_cons len_nil))) rfl (da_cons (de_var (i := 2)) (da_cons de_int (da_cons (de_sub (de_var (i := 0)) de_int) da_nil)))))))))
theorem sc_need_text : FnScope ["letters", "value"] ["letters", "value"] (defScope s_need_text) := ⟨rfl, rfl, rfl, by decide +kernel, rfl, by decide +kernel, by decide +kernel⟩
theorem bn_need_text (Z : Law w K mg base g) : Binds K Z.fd_need_text ["letters", "value"] [] := Z.F_need_text.bindsN fun _ _ _ _ _ _ us hl => match us, hl with | [_, _], _ => rfl
theorem ok_need_text (Z : Law w K mg base g) : FnOk P w K mg base (L2.CX P w) 4 Z.a_need_text Z.fd_need_text ["letters", "value"] (spD g 2 2 dn_need_text) :=
  fn_okD Z.F_need_text sc_need_text rfl rfl Z.hw Z.hK fun cdv A outer s H E Γ e hr hg ho => by have z : Cz _ Γ g 3 := ⟨hg, ho, hr⟩; exact (db_one (ds_if (dt_not (dt_bool (de_callG (ok_is_text Z) z.hg z.o (z.r.mono (by decide)) Z.m_is_text Z.F_is_text.kp (bn_is_text Z) (len_cons (len_cons len_nil)) rfl (da_cons (de_var (i := 0)) (da_cons (de_var (i := 1)) da_nil))))) (db_one ds_no) db_nil))
theorem sc_is_lot : FnScope ["messengers", "value", "one", "other"] ["messengers", "value"] (defScope s_is_lot) := ⟨rfl, rfl, rfl, by decide +kernel, rfl, by decide +kernel, by decide +kernel⟩
theorem bn_is_lot (Z : Law w K mg base g) : Binds K Z.fd_is_lot ["messengers", "value"] [] := Z.F_is_lot.bindsN fun _ _ _ _ _ _ us hl => match us, hl with | [_, _], _ => rfl
theorem ok_is_lot (Z : Law w K mg base g) : FnOk P w K mg base (L2.CX P w) 3 Z.a_is_lot Z.fd_is_lot ["messengers", "value"] (spD g 2 4 dn_is_lot) :=
  fn_okD Z.F_is_lot sc_is_lot rfl rfl Z.hw Z.hK fun cdv A outer s H E Γ e hr hg ho => by have z : Cz _ Γ g 2 := ⟨hg, ho, hr⟩; have ht := hasTab_o ho Z.t_is_lot e hg; exact (db_cons (ds_if (dw_dt (dw_or (dt_not (dt_bool (de_isi .tup nofun z.o.w rfl Z.b_isinstance bb_isinstance rfl Z.b_tuple bb_tuple (de_var (i := 1))))) (dw_or1 (dt_not (dt_bool (de_all rfl z.r sc_is_lot.nd rfl Z.b_all ht (genOk_by (own := [("one", 2)]) rfl) (vs := [2]) (ks := [2]) rfl (by decide) (di_seq (de_var (i := 1))) (fun s H cl C code bi fp pn G32 e33 => in_gen_k z e33 fun z30 => (dk_name sc_is_lot.nd rfl (Or.inl rfl))) (fun s H cl C code bi fp pn G34 e35 => in_gen_c z e35 fun z30 => dc_nil) (fun s H cl C code bi fp pn G36 e37 => in_gen_e z e37 fun z30 => (de_callG (ok_is_number Z) z30.hg z30.o (z30.r.mono (by decide)) Z.m_is_number Z.F_is_number.kp (bn_is_number Z) (len_cons (len_cons (len_cons len_nil))) rfl (da_cons (de_var (i := 2)) (da_cons de_int (da_cons (de_sub (de_var (i := 0)) de_int) da_nil))))))))))) (db_one (ds_ret de_bl)) db_nil) (db_one (ds_ret (de_all rfl z.r sc_is_lot.nd rfl Z.b_all ht (genOk_by (own := [("one", 2), ("other", 3)]) rfl) (vs := [2, 3]) (ks := [2, 3]) rfl (by decide) (di_zip rfl Z.b_zip (da_cons (de_var (i := 1)) (da_cons (de_slice (de_var (i := 1)) (do_some de_int) do_none) da_nil))) (fun s H cl C code bi fp pn G40 e41 => in_gen_k z e41 fun z38 => (dk_tup rfl (dks_cons (dk_name sc_is_lot.nd rfl (Or.inl rfl)) (dks_cons (dk_name sc_is_lot.nd rfl (Or.inl rfl)) dks_nil)))) (fun s H cl C code bi fp pn G42 e43 => in_gen_c z e43 fun z38 => dc_nil) (fun s H cl C code bi fp pn G44 e45 => in_gen_e z e45 fun z38 => (de_lt (de_var (i := 2)) (de_var (i := 3))))))))
theorem sc_need_plan : FnScope ["value", "messengers", "told", "lot"] ["value"] (defScope s_need_plan) := ⟨rfl, rfl, rfl, by decide +kernel, rfl, by decide +kernel, by decide +kernel⟩
theorem bn_need_plan (Z : Law w K mg base g) : Binds K Z.fd_need_plan ["value"] [] := Z.F_need_plan.bindsN fun _ _ _ _ _ _ us hl => match us, hl with | [_], _ => rfl
theorem ok_need_plan (Z : Law w K mg base g) : FnOk P w K mg base (L2.CX P w) 5 Z.a_need_plan Z.fd_need_plan ["value"] (spD g 1 4 dn_need_plan) :=
  fn_okD Z.F_need_plan sc_need_plan rfl rfl Z.hw Z.hK fun cdv A outer s H E Γ e hr hg ho => by have z : Cz _ Γ g 4 := ⟨hg, ho, hr⟩; have ht := hasTab_o ho Z.t_need_plan e hg; exact (db_cons (ds_if (dw_dt (dw_or (dt_not (dt_bool (de_isi .tup nofun z.o.w rfl Z.b_isinstance bb_isinstance rfl Z.b_tuple bb_tuple (de_var (i := 0))))) (dw_or1 (dt_ne z.r.units (de_len z.o.K rfl Z.b_len (DE.dp (de_var (i := 0)))) de_int)))) (db_one ds_no) db_nil) (db_cons (ds_asg (de_var (i := 0)) (dg_tup rfl (dgs_cons (dg_name sc_need_plan.nd rfl (Or.inr rfl)) (dgs_cons (dg_name sc_need_plan.nd rfl (Or.inl rfl)) dgs_nil)))) (db_cons (ds_if (dt_not (dt_bool (de_callG (ok_is_number Z) z.hg z.o (z.r.mono (by decide)) Z.m_is_number Z.F_is_number.kp (bn_is_number Z) (len_cons (len_cons (len_cons len_nil))) rfl (da_cons (de_var (i := 1)) (da_cons de_int (da_cons (de_gint rfl Z.i_MOST_MESSENGERS.choose_spec) da_nil)))))) (db_one ds_no) db_nil) (db_cons (ds_if (dw_dt (dw_or (dt_not (dt_bool (de_isi .tup nofun z.o.w rfl Z.b_isinstance bb_isinstance rfl Z.b_tuple bb_tuple (de_var (i := 2))))) (dw_or1 (dt_not (dt_chain op_le op_le opd_cmp opd_cmp de_int (de_len z.o.K rfl Z.b_len (DE.dp (de_var (i := 2)))) (de_gint rfl Z.i_MOST_LETTERS.choose_spec)))))) (db_one ds_no) db_nil) (db_one (ds_if (dt_not (dt_bool (de_all rfl z.r sc_need_plan.nd rfl Z.b_all ht (genOk_by (own := [("lot", 3)]) rfl) (vs := [3]) (ks := [3]) rfl (by decide) (di_seq (de_var (i := 2))) (fun s H cl C code bi fp pn G55 e56 => in_gen_k z e56 fun z53 => (dk_name sc_need_plan.nd rfl (Or.inl rfl))) (fun s H cl C code bi fp pn G57 e58 => in_gen_c z e58 fun z53 => dc_nil) (fun s H cl C code bi fp pn G59 e60 => in_gen_e z e60 fun z53 => (de_callG (ok_is_lot Z) z53.hg z53.o (z53.r.mono (by decide)) Z.m_is_lot Z.F_is_lot.kp (bn_is_lot Z) (len_cons (len_cons len_nil)) rfl (da_cons (de_var (i := 1)) (da_cons (de_var (i := 3)) da_nil))))))) (db_one ds_no) db_nil))))))
theorem sc_row_for : FnScope ["plan", "text", "messenger", "letter"] ["plan", "text", "messenger"] (defScope s_row_for) := ⟨rfl, rfl, rfl, by decide +kernel, rfl, by decide +kernel, by decide +kernel⟩
theorem bn_row_for (Z : Law w K mg base g) : Binds K Z.fd_row_for ["plan", "text", "messenger"] [] := Z.F_row_for.bindsN fun _ _ _ _ _ _ us hl => match us, hl with | [_, _, _], _ => rfl
theorem ok_row_for (Z : Law w K mg base g) : FnOk P w K mg base (L2.CX P w) 1 Z.a_row_for Z.fd_row_for ["plan", "text", "messenger"] (spD g 3 4 dn_row_for) :=
  fn_okD Z.F_row_for sc_row_for rfl rfl Z.hw Z.hK fun cdv A outer s H E Γ e hr hg ho => by have z : Cz _ Γ g 0 := ⟨hg, ho, hr⟩; exact (db_one (ds_ret (de_tuple rfl Z.b_tuple bb_tuple (DN.de (dn_lc rfl sc_row_for.nd (di_seq (de_var (i := 1))) (blkOk_by (own := [("letter", 3)]) rfl) (vs := [3]) (ks := [3]) rfl (by decide) (fun s H C cl fp G69 e70 => in_blk_k z e70 fun z68 => (dk_name sc_row_for.nd rfl (Or.inl rfl))) (fun s H C cl fp G71 e72 => in_blk_c z e72 fun z68 => (dc_one (dt_in z68.r.units (de_var (i := 2)) (DE.dp (de_ix z68.o.K (de_ix z68.o.K (de_var (i := 0)) de_int) (de_var (i := 3))))))) (fun s H C cl fp G73 e74 => in_blk_e z e74 fun z68 => (de_var (i := 3))))))))
theorem sc_rows_of : FnScope ["plan", "text", "messenger"] ["plan", "text"] (defScope s_rows_of) := ⟨rfl, rfl, rfl, by decide +kernel, rfl, by decide +kernel, by decide +kernel⟩
theorem bn_rows_of (Z : Law w K mg base g) : Binds K Z.fd_rows_of ["plan", "text"] [] := Z.F_rows_of.bindsN fun _ _ _ _ _ _ us hl => match us, hl with | [_, _], _ => rfl
theorem ok_rows_of (Z : Law w K mg base g) : FnOk P w K mg base (L2.CX P w) 2 Z.a_rows_of Z.fd_rows_of ["plan", "text"] (spD g 2 3 dn_rows_of) :=
  fn_okD Z.F_rows_of sc_rows_of rfl rfl Z.hw Z.hK fun cdv A outer s H E Γ e hr hg ho => by have z : Cz _ Γ g 1 := ⟨hg, ho, hr⟩; exact (db_one (ds_ret (de_tuple rfl Z.b_tuple bb_tuple (DN.de (dn_lc rfl sc_rows_of.nd (di_range1 rfl Z.b_range (da_cons (de_ix z.o.K (de_var (i := 0)) de_int) da_nil)) (blkOk_by (own := [("messenger", 2)]) rfl) (vs := [2]) (ks := [2]) rfl (by decide) (fun s H C cl fp G83 e84 => in_blk_k z e84 fun z82 => (dk_name sc_rows_of.nd rfl (Or.inl rfl))) (fun s H C cl fp G85 e86 => in_blk_c z e86 fun z82 => dc_nil) (fun s H C cl fp G87 e88 => in_blk_e z e88 fun z82 => (de_callG (ok_row_for Z) z82.hg z82.o (z82.r.mono (by decide)) Z.m_row_for Z.F_row_for.kp (bn_row_for Z) (len_cons (len_cons (len_cons len_nil))) rfl (da_cons (de_var (i := 0)) (da_cons (de_var (i := 1)) (da_cons (de_var (i := 2)) da_nil))))))))))
theorem sc_common_of : FnScope ["plan", "one", "other", "messenger"] ["plan", "one", "other"] (defScope s_common_of) := ⟨rfl, rfl, rfl, by decide +kernel, rfl, by decide +kernel, by decide +kernel⟩
theorem bn_common_of (Z : Law w K mg base g) : Binds K Z.fd_common_of ["plan", "one", "other"] [] := Z.F_common_of.bindsN fun _ _ _ _ _ _ us hl => match us, hl with | [_, _, _], _ => rfl
theorem ok_common_of (Z : Law w K mg base g) : FnOk P w K mg base (L2.CX P w) 1 Z.a_common_of Z.fd_common_of ["plan", "one", "other"] (spD g 3 4 dn_common_of) :=
  fn_okD Z.F_common_of sc_common_of rfl rfl Z.hw Z.hK fun cdv A outer s H E Γ e hr hg ho => by have z : Cz _ Γ g 0 := ⟨hg, ho, hr⟩; exact (db_one (ds_ret (de_tuple rfl Z.b_tuple bb_tuple (DN.de (dn_lc rfl sc_common_of.nd (di_seq (de_ix z.o.K (de_ix z.o.K (de_var (i := 0)) de_int) (de_var (i := 1)))) (blkOk_by (own := [("messenger", 3)]) rfl) (vs := [3]) (ks := [3]) rfl (by decide) (fun s H C cl fp G97 e98 => in_blk_k z e98 fun z96 => (dk_name sc_common_of.nd rfl (Or.inl rfl))) (fun s H C cl fp G99 e100 => in_blk_c z e100 fun z96 => (dc_one (dt_in z96.r.units (de_var (i := 3)) (DE.dp (de_ix z96.o.K (de_ix z96.o.K (de_var (i := 0)) de_int) (de_var (i := 2))))))) (fun s H C cl fp G101 e102 => in_blk_e z e102 fun z96 => (de_var (i := 3))))))))
theorem sc_need_faults : FnScope ["liars", "lost"] ["liars", "lost"] (defScope s_need_faults) := ⟨rfl, rfl, rfl, by decide +kernel, rfl, by decide +kernel, by decide +kernel⟩
theorem bn_need_faults (Z : Law w K mg base g) : Binds K Z.fd_need_faults ["liars", "lost"] [] := Z.F_need_faults.bindsN fun _ _ _ _ _ _ us hl => match us, hl with | [_, _], _ => rfl
theorem ok_need_faults (Z : Law w K mg base g) : FnOk P w K mg base (L2.CX P w) 3 Z.a_need_faults Z.fd_need_faults ["liars", "lost"] (spD g 2 2 dn_need_faults) :=
  fn_okD Z.F_need_faults sc_need_faults rfl rfl Z.hw Z.hK fun cdv A outer s H E Γ e hr hg ho => by have z : Cz _ Γ g 2 := ⟨hg, ho, hr⟩; exact (db_cons (ds_expr (de_callG (ok_need_number Z) z.hg z.o (z.r.mono (by decide)) Z.m_need_number Z.F_need_number.kp (bn_need_number Z) (len_cons (len_cons (len_cons len_nil))) rfl (da_cons (de_var (i := 0)) (da_cons de_int (da_cons (de_gint rfl Z.i_MOST_MESSENGERS.choose_spec) da_nil))))) (db_one (ds_expr (de_callG (ok_need_number Z) z.hg z.o (z.r.mono (by decide)) Z.m_need_number Z.F_need_number.kp (bn_need_number Z) (len_cons (len_cons (len_cons len_nil))) rfl (da_cons (de_var (i := 1)) (da_cons de_int (da_cons (de_gint rfl Z.i_MOST_MESSENGERS.choose_spec) da_nil)))))))
theorem sc_is_row : FnScope ["plan", "messenger", "value", "letter"] ["plan", "messenger", "value"] (defScope s_is_row) := ⟨rfl, rfl, rfl, by decide +kernel, rfl, by decide +kernel, by decide +kernel⟩
theorem bn_is_row (Z : Law w K mg base g) : Binds K Z.fd_is_row ["plan", "messenger", "value"] [] := Z.F_is_row.bindsN fun _ _ _ _ _ _ us hl => match us, hl with | [_, _, _], _ => rfl
theorem ok_is_row (Z : Law w K mg base g) : FnOk P w K mg base (L2.CX P w) 4 Z.a_is_row Z.fd_is_row ["plan", "messenger", "value"] (spD g 3 4 dn_is_row) :=
  fn_okD Z.F_is_row sc_is_row rfl rfl Z.hw Z.hK fun cdv A outer s H E Γ e hr hg ho => by have z : Cz _ Γ g 3 := ⟨hg, ho, hr⟩; have ht := hasTab_o ho Z.t_is_row e hg; exact (db_cons (ds_if (dt_not (dt_bool (de_callG (ok_is_text Z) z.hg z.o (z.r.mono (by decide)) Z.m_is_text Z.F_is_text.kp (bn_is_text Z) (len_cons (len_cons len_nil)) rfl (da_cons (de_len z.o.K rfl Z.b_len (DE.dp (de_ix z.o.K (de_var (i := 0)) de_int))) (da_cons (de_var (i := 2)) da_nil))))) (db_one (ds_ret de_bl)) db_nil) (db_one (ds_ret (de_all rfl z.r sc_is_row.nd rfl Z.b_all ht (genOk_by (own := [("letter", 3)]) rfl) (vs := [3]) (ks := [3]) rfl (by decide) (di_seq (de_var (i := 2))) (fun s H cl C code bi fp pn G112 e113 => in_gen_k z e113 fun z110 => (dk_name sc_is_row.nd rfl (Or.inl rfl))) (fun s H cl C code bi fp pn G114 e115 => in_gen_c z e115 fun z110 => dc_nil) (fun s H cl C code bi fp pn G116 e117 => in_gen_e z e117 fun z110 => (de_in z110.r.units (de_var (i := 1)) (DE.dp (de_ix z110.o.K (de_ix z110.o.K (de_var (i := 0)) de_int) (de_var (i := 3))))))))))
theorem sc_need_post : FnScope ["plan", "value", "messenger", "row"] ["plan", "value"] (defScope s_need_post) := ⟨rfl, rfl, rfl, by decide +kernel, rfl, by decide +kernel, by decide +kernel⟩
theorem bn_need_post (Z : Law w K mg base g) : Binds K Z.fd_need_post ["plan", "value"] [] := Z.F_need_post.bindsN fun _ _ _ _ _ _ us hl => match us, hl with | [_, _], _ => rfl
theorem ok_need_post (Z : Law w K mg base g) : FnOk P w K mg base (L2.CX P w) 5 Z.a_need_post Z.fd_need_post ["plan", "value"] (spD g 2 4 dn_need_post) :=
  fn_okD Z.F_need_post sc_need_post rfl rfl Z.hw Z.hK fun cdv A outer s H E Γ e hr hg ho => by have z : Cz _ Γ g 4 := ⟨hg, ho, hr⟩; have pz := passes_o ho; exact (db_cons (ds_if (dw_dt (dw_or (dt_not (dt_bool (de_isi .tup nofun z.o.w rfl Z.b_isinstance bb_isinstance rfl Z.b_tuple bb_tuple (de_var (i := 1))))) (dw_or1 (dt_ne z.r.units (de_len z.o.K rfl Z.b_len (DE.dp (de_var (i := 1)))) (de_ix z.o.K (de_var (i := 0)) de_int))))) (db_one ds_no) db_nil) (db_one (ds_for pz rfl (di_enum rfl Z.b_enumerate (da_cons (de_var (i := 1)) da_nil)) (dg_tup rfl (dgs_cons (dg_name sc_need_post.nd rfl (Or.inl rfl)) (dgs_cons (dg_name sc_need_post.nd rfl (Or.inl rfl)) dgs_nil))) (db_one (ds_if (dt_not (dt_bool (de_callG (ok_is_row Z) z.hg z.o (z.r.mono (by decide)) Z.m_is_row Z.F_is_row.kp (bn_is_row Z) (len_cons (len_cons (len_cons len_nil))) rfl (da_cons (de_var (i := 0)) (da_cons (de_var (i := 2)) (da_cons (de_var (i := 3)) da_nil)))))) (db_one ds_no) db_nil)))))
theorem sc_comes_of : FnScope ["plan", "liars", "lost", "text", "post", "wrong", "short", "messenger", "row"] ["plan", "liars", "lost", "text", "post"] (defScope s_comes_of) := ⟨rfl, rfl, rfl, by decide +kernel, rfl, by decide +kernel, by decide +kernel⟩
theorem bn_comes_of (Z : Law w K mg base g) : Binds K Z.fd_comes_of ["plan", "liars", "lost", "text", "post"] [] := Z.F_comes_of.bindsN fun _ _ _ _ _ _ us hl => match us, hl with | [_, _, _, _, _], _ => rfl
theorem ok_comes_of (Z : Law w K mg base g) : FnOk P w K mg base (L2.CX P w) 3 Z.a_comes_of Z.fd_comes_of ["plan", "liars", "lost", "text", "post"] (spD g 5 9 dn_comes_of) :=
  fn_okD Z.F_comes_of sc_comes_of rfl rfl Z.hw Z.hK fun cdv A outer s H E Γ e hr hg ho => by have z : Cz _ Γ g 2 := ⟨hg, ho, hr⟩; have pz := passes_o ho; exact (db_cons (ds_asg (de_tup (da_cons de_int (da_cons de_int da_nil))) (dg_tup rfl (dgs_cons (dg_name sc_comes_of.nd rfl (Or.inl rfl)) (dgs_cons (dg_name sc_comes_of.nd rfl (Or.inl rfl)) dgs_nil)))) (db_cons (ds_for pz rfl (di_enum rfl Z.b_enumerate (da_cons (de_callG (ok_rows_of Z) z.hg z.o (z.r.mono (by decide)) Z.m_rows_of Z.F_rows_of.kp (bn_rows_of Z) (len_cons (len_cons len_nil)) rfl (da_cons (de_var (i := 0)) (da_cons (de_var (i := 3)) da_nil))) da_nil)) (dg_tup rfl (dgs_cons (dg_name sc_comes_of.nd rfl (Or.inl rfl)) (dgs_cons (dg_name sc_comes_of.nd rfl (Or.inl rfl)) dgs_nil))) (db_one (ds_if (dt_ne z.r.units (de_ix z.o.K (de_var (i := 4)) (de_var (i := 7))) (de_var (i := 8))) (db_cons (ds_aug sc_comes_of.nd rfl (Or.inl rfl) iop_addI opd_addIB de_int) (db_one (ds_aug sc_comes_of.nd rfl (Or.inl rfl) iop_addI opd_addIB (de_eq z.r.units (de_ix z.o.K (de_var (i := 4)) (de_var (i := 7))) (de_slice (de_var (i := 8)) do_none (do_some (de_len z.o.K rfl Z.b_len (DE.dp (de_ix z.o.K (de_var (i := 4)) (de_var (i := 7))))))))))) db_nil))) (db_one (ds_ret (de_le (de_sub (de_var (i := 5)) (de_min2 rfl rfl Z.b_min bb_min (da_cons (de_var (i := 2)) (da_cons (de_var (i := 6)) da_nil)))) (de_var (i := 1)))))))
theorem sc_can_come : FnScope ["plan", "liars", "lost", "text", "post"] ["plan", "liars", "lost", "text", "post"] (defScope s_can_come) := ⟨rfl, rfl, rfl, by decide +kernel, rfl, by decide +kernel, by decide +kernel⟩
theorem bn_can_come (Z : Law w K mg base g) : Binds K Z.fd_can_come ["plan", "liars", "lost", "text", "post"] [] := Z.F_can_come.bindsN fun _ _ _ _ _ _ us hl => match us, hl with | [_, _, _, _, _], _ => rfl
theorem ok_can_come (Z : Law w K mg base g) : FnOk P w K mg base (L2.CX P w) 6 Z.a_can_come Z.fd_can_come ["plan", "liars", "lost", "text", "post"] (spD g 5 5 dn_can_come) :=
  fn_okD Z.F_can_come sc_can_come rfl rfl Z.hw Z.hK fun cdv A outer s H E Γ e hr hg ho => by have z : Cz _ Γ g 5 := ⟨hg, ho, hr⟩; exact (db_cons (ds_expr (de_callG (ok_need_plan Z) z.hg z.o (z.r.mono (by decide)) Z.m_need_plan Z.F_need_plan.kp (bn_need_plan Z) (len_cons len_nil) rfl (da_cons (de_var (i := 0)) da_nil))) (db_cons (ds_expr (de_callG (ok_need_faults Z) z.hg z.o (z.r.mono (by decide)) Z.m_need_faults Z.F_need_faults.kp (bn_need_faults Z) (len_cons (len_cons len_nil)) rfl (da_cons (de_var (i := 1)) (da_cons (de_var (i := 2)) da_nil)))) (db_cons (ds_expr (de_callG (ok_need_text Z) z.hg z.o (z.r.mono (by decide)) Z.m_need_text Z.F_need_text.kp (bn_need_text Z) (len_cons (len_cons len_nil)) rfl (da_cons (de_len z.o.K rfl Z.b_len (DE.dp (de_ix z.o.K (de_var (i := 0)) de_int))) (da_cons (de_var (i := 3)) da_nil)))) (db_cons (ds_expr (de_callG (ok_need_post Z) z.hg z.o (z.r.mono (by decide)) Z.m_need_post Z.F_need_post.kp (bn_need_post Z) (len_cons (len_cons len_nil)) rfl (da_cons (de_var (i := 0)) (da_cons (de_var (i := 4)) da_nil)))) (db_one (ds_ret (de_callG (ok_comes_of Z) z.hg z.o (z.r.mono (by decide)) Z.m_comes_of Z.F_comes_of.kp (bn_comes_of Z) (len_cons (len_cons (len_cons (len_cons (len_cons len_nil))))) rfl (da_cons (de_var (i := 0)) (da_cons (de_var (i := 1)) (da_cons (de_var (i := 2)) (da_cons (de_var (i := 3)) (da_cons (de_var (i := 4)) da_nil))))))))))))
theorem sc_need_count : FnScope ["value"] ["value"] (defScope s_need_count) := ⟨rfl, rfl, rfl, by decide +kernel, rfl, by decide +kernel, by decide +kernel⟩
theorem bn_need_count (Z : Law w K mg base g) : Binds K Z.fd_need_count ["value"] [] := Z.F_need_count.bindsN fun _ _ _ _ _ _ us hl => match us, hl with | [_], _ => rfl
theorem ok_need_count (Z : Law w K mg base g) : FnOk P w K mg base (L2.CX P w) 3 Z.a_need_count Z.fd_need_count ["value"] (spD g 1 1 dn_need_count) :=
  fn_okD Z.F_need_count sc_need_count rfl rfl Z.hw Z.hK fun cdv A outer s H E Γ e hr hg ho => by have z : Cz _ Γ g 2 := ⟨hg, ho, hr⟩; exact (db_one (ds_expr (de_callG (ok_need_number Z) z.hg z.o (z.r.mono (by decide)) Z.m_need_number Z.F_need_number.kp (bn_need_number Z) (len_cons (len_cons (len_cons len_nil))) rfl (da_cons (de_var (i := 0)) (da_cons de_int (da_cons (de_gint rfl Z.i_MOST_COUNT.choose_spec) da_nil))))))
theorem sc_heard_of : FnScope ["plan", "count", "letter", "lot"] ["plan", "count"] (defScope s_heard_of) := ⟨rfl, rfl, rfl, by decide +kernel, rfl, by decide +kernel, by decide +kernel⟩
theorem bn_heard_of (Z : Law w K mg base g) : Binds K Z.fd_heard_of ["plan", "count"] [] := Z.F_heard_of.bindsN fun _ _ _ _ _ _ us hl => match us, hl with | [_, _], _ => rfl
theorem ok_heard_of (Z : Law w K mg base g) : FnOk P w K mg base (L2.CX P w) 1 Z.a_heard_of Z.fd_heard_of ["plan", "count"] (spD g 2 4 dn_heard_of) :=
  fn_okD Z.F_heard_of sc_heard_of rfl rfl Z.hw Z.hK fun cdv A outer s H E Γ e hr hg ho => by have z : Cz _ Γ g 0 := ⟨hg, ho, hr⟩; exact (db_one (ds_ret (DN.de (dn_lc rfl sc_heard_of.nd (di_enum rfl Z.b_enumerate (da_cons (de_ix z.o.K (de_var (i := 0)) de_int) da_nil)) (blkOk_by (own := [("letter", 2), ("lot", 3)]) rfl) (vs := [2, 3]) (ks := [2, 3]) rfl (by decide) (fun s H C cl fp G126 e127 => in_blk_k z e127 fun z125 => (dk_tup rfl (dks_cons (dk_name sc_heard_of.nd rfl (Or.inl rfl)) (dks_cons (dk_name sc_heard_of.nd rfl (Or.inl rfl)) dks_nil)))) (fun s H C cl fp G128 e129 => in_blk_c z e129 fun z125 => (dc_one (dt_ge (de_len z125.o.K rfl Z.b_len (DE.dp (de_var (i := 3)))) (de_var (i := 1))))) (fun s H C cl fp G130 e131 => in_blk_e z e131 fun z125 => (de_var (i := 2)))))))
theorem sc_are_free : FnScope ["plan", "count", "one", "other"] ["plan", "count", "one", "other"] (defScope s_are_free) := ⟨rfl, rfl, rfl, by decide +kernel, rfl, by decide +kernel, by decide +kernel⟩
theorem bn_are_free (Z : Law w K mg base g) : Binds K Z.fd_are_free ["plan", "count", "one", "other"] [] := Z.F_are_free.bindsN fun _ _ _ _ _ _ us hl => match us, hl with | [_, _, _, _], _ => rfl
theorem ok_are_free (Z : Law w K mg base g) : FnOk P w K mg base (L2.CX P w) 2 Z.a_are_free Z.fd_are_free ["plan", "count", "one", "other"] (spD g 4 4 dn_are_free) :=
  fn_okD Z.F_are_free sc_are_free rfl rfl Z.hw Z.hK fun cdv A outer s H E Γ e hr hg ho => by have z : Cz _ Γ g 1 := ⟨hg, ho, hr⟩; exact (db_one (ds_ret (de_and (de_ne z.r.units (de_var (i := 2)) (de_var (i := 3))) (de_one (de_lt (de_len z.o.K rfl Z.b_len (DE.dp (de_callG (ok_common_of Z) z.hg z.o (z.r.mono (by decide)) Z.m_common_of Z.F_common_of.kp (bn_common_of Z) (len_cons (len_cons (len_cons len_nil))) rfl (da_cons (de_var (i := 0)) (da_cons (de_var (i := 2)) (da_cons (de_var (i := 3)) da_nil)))))) (de_var (i := 1)))))))
theorem sc_first_of : FnScope ["plan", "count", "text", "some", "left", "found", "fronts", "at", "letter", "one"] ["plan", "count", "text"] (defScope s_first_of) := ⟨rfl, rfl, rfl, by decide +kernel, rfl, by decide +kernel, by decide +kernel⟩
theorem bn_first_of (Z : Law w K mg base g) : Binds K Z.fd_first_of ["plan", "count", "text"] [] := Z.F_first_of.bindsN fun _ _ _ _ _ _ us hl => match us, hl with | [_, _, _], _ => rfl
theorem ok_first_of (Z : Law w K mg base g) : FnOk P w K mg base (L2.CX P w) 4 Z.a_first_of Z.fd_first_of ["plan", "count", "text"] (spD g 3 10 dn_first_of) :=
  fn_okD Z.F_first_of sc_first_of rfl rfl Z.hw Z.hK fun cdv A outer s H E Γ e hr hg ho => by have z : Cz _ Γ g 3 := ⟨hg, ho, hr⟩; have ht := hasTab_o ho Z.t_first_of e hg; have pz := passes_o ho; exact (db_cons (ds_set sc_first_of.nd rfl (Or.inr rfl) (de_callG (ok_heard_of Z) z.hg z.o (z.r.mono (by decide)) Z.m_heard_of Z.F_heard_of.kp (bn_heard_of Z) (len_cons (len_cons len_nil)) rfl (da_cons (de_var (i := 0)) (da_cons (de_var (i := 1)) da_nil)))) (db_cons (ds_pairT (k1 := true) (k2 := true) z.o rfl sc_first_of.nd (i := 4) (j := 5) rfl rfl (Or.inr rfl) (Or.inl rfl) (DN.dx (dn_lc rfl sc_first_of.nd (di_seq (de_var (i := 2))) (blkOk_by (own := [("letter", 8)]) rfl) (vs := [8]) (ks := [8]) rfl (by decide) (fun s H C cl fp G162 e163 => in_blt_k z ht e163 fun z160 h161 => (dk_name sc_first_of.nd rfl (Or.inl rfl))) (fun s H C cl fp G164 e165 => in_blt_c z ht e165 fun z160 h161 => (dc_one (dt_in z160.r.units (de_var (i := 8)) (DE.dp (de_var (i := 3)))))) (fun s H C cl fp G166 e167 => in_blt_e z ht e167 fun z160 h161 => (de_var (i := 8))))) (fun G170 e171 o172 => by have z168 := Cz.at_ z e171 o172; have h169 := tab_at ht e171; exact (DN.dx (dn_lst da_nil)))) (db_cons (ds_while 64 pz (dt_valP (dp_var (i := 4))) (db_cons (ds_setLc (i := 6) rfl sc_first_of.nd rfl rfl (di_range1 rfl Z.b_range (da_cons (de_len z.o.K rfl Z.b_len (dp_var (i := 4))) da_nil)) (blkOk_by (own := [("at", 7)]) rfl) (vs := [7]) (ks := [7]) rfl (by decide) (fun s H C cl fp G183 e184 => in_blt_k z ht e184 fun z173 h174 => (dk_name sc_first_of.nd rfl (Or.inr rfl))) (fun s H C cl fp G185 e186 => in_blt_c z ht e186 fun z173 h174 => (dc_one (dt_bool (de_all rfl z173.r sc_first_of.nd rfl Z.b_all h174 (genOk_by (own := [("one", 9)]) rfl) (vs := [9]) (ks := [9]) rfl (by decide) (di_seq (de_sliceV (i := 4) do_none (do_some (de_var (i := 7))))) (fun s H cl C code bi fp pn G177 e178 => in_gen_k z173 e178 fun z175 => (dk_name sc_first_of.nd rfl (Or.inl rfl))) (fun s H cl C code bi fp pn G179 e180 => in_gen_c z173 e180 fun z175 => dc_nil) (fun s H cl C code bi fp pn G181 e182 => in_gen_e z173 e182 fun z175 => (de_callG (ok_are_free Z) z175.hg z175.o (z175.r.mono (by decide)) Z.m_are_free Z.F_are_free.kp (bn_are_free Z) (len_cons (len_cons (len_cons (len_cons len_nil)))) rfl (da_cons (de_var (i := 0)) (da_cons (de_var (i := 1)) (da_cons (de_ixV (i := 4) z175.o.K (de_var (i := 7))) (da_cons (de_var (i := 9)) da_nil)))))))))) (fun s H C cl fp G187 e188 => in_blt_e z ht e188 fun z173 h174 => (de_var (i := 7)))) (db_cons (ds_set sc_first_of.nd rfl (Or.inl rfl) (de_minKey rfl z.r sc_first_of.nd rfl Z.b_min bb_min ht (lamOk_by (p := "at") (j := 7) rfl) (de_var (i := 6)) (fun s H q L f c G191 e192 => in_lam_e z e192 fun z189 => (de_ixV (i := 4) z189.o.K (de_var (i := 7)))))) (db_one (ds_expr (de_append (i := 5) (de_popAt (i := 4) (de_var (i := 7))))))))) (db_one (ds_ret (de_tupleP rfl Z.b_tuple bb_tuple (dp_var (i := 5))))))))
theorem sc_first_alike : FnScope ["plan", "count", "text"] ["plan", "count", "text"] (defScope s_first_alike) := ⟨rfl, rfl, rfl, by decide +kernel, rfl, by decide +kernel, by decide +kernel⟩
theorem bn_first_alike (Z : Law w K mg base g) : Binds K Z.fd_first_alike ["plan", "count", "text"] [] := Z.F_first_alike.bindsN fun _ _ _ _ _ _ us hl => match us, hl with | [_, _, _], _ => rfl
theorem ok_first_alike (Z : Law w K mg base g) : FnOk P w K mg base (L2.CX P w) 6 Z.a_first_alike Z.fd_first_alike ["plan", "count", "text"] (spD g 3 3 dn_first_alike) :=
  fn_okD Z.F_first_alike sc_first_alike rfl rfl Z.hw Z.hK fun cdv A outer s H E Γ e hr hg ho => by have z : Cz _ Γ g 5 := ⟨hg, ho, hr⟩; exact (db_cons (ds_expr (de_callG (ok_need_plan Z) z.hg z.o (z.r.mono (by decide)) Z.m_need_plan Z.F_need_plan.kp (bn_need_plan Z) (len_cons len_nil) rfl (da_cons (de_var (i := 0)) da_nil))) (db_cons (ds_expr (de_callG (ok_need_count Z) z.hg z.o (z.r.mono (by decide)) Z.m_need_count Z.F_need_count.kp (bn_need_count Z) (len_cons len_nil) rfl (da_cons (de_var (i := 1)) da_nil))) (db_cons (ds_expr (de_callG (ok_need_text Z) z.hg z.o (z.r.mono (by decide)) Z.m_need_text Z.F_need_text.kp (bn_need_text Z) (len_cons (len_cons len_nil)) rfl (da_cons (de_len z.o.K rfl Z.b_len (DE.dp (de_ix z.o.K (de_var (i := 0)) de_int))) (da_cons (de_var (i := 2)) da_nil)))) (db_one (ds_ret (de_callG (ok_first_of Z) z.hg z.o (z.r.mono (by decide)) Z.m_first_of Z.F_first_of.kp (bn_first_of Z) (len_cons (len_cons (len_cons len_nil))) rfl (da_cons (de_var (i := 0)) (da_cons (de_var (i := 1)) (da_cons (de_var (i := 2)) da_nil)))))))))
theorem sc_alike : FnScope ["plan", "count", "one", "other"] ["plan", "count", "one", "other"] (defScope s_alike) := ⟨rfl, rfl, rfl, by decide +kernel, rfl, by decide +kernel, by decide +kernel⟩
theorem bn_alike (Z : Law w K mg base g) : Binds K Z.fd_alike ["plan", "count", "one", "other"] [] := Z.F_alike.bindsN fun _ _ _ _ _ _ us hl => match us, hl with | [_, _, _, _], _ => rfl
theorem ok_alike (Z : Law w K mg base g) : FnOk P w K mg base (L2.CX P w) 6 Z.a_alike Z.fd_alike ["plan", "count", "one", "other"] (spD g 4 4 dn_alike) :=
  fn_okD Z.F_alike sc_alike rfl rfl Z.hw Z.hK fun cdv A outer s H E Γ e hr hg ho => by have z : Cz _ Γ g 5 := ⟨hg, ho, hr⟩; exact (db_cons (ds_expr (de_callG (ok_need_plan Z) z.hg z.o (z.r.mono (by decide)) Z.m_need_plan Z.F_need_plan.kp (bn_need_plan Z) (len_cons len_nil) rfl (da_cons (de_var (i := 0)) da_nil))) (db_cons (ds_expr (de_callG (ok_need_count Z) z.hg z.o (z.r.mono (by decide)) Z.m_need_count Z.F_need_count.kp (bn_need_count Z) (len_cons len_nil) rfl (da_cons (de_var (i := 1)) da_nil))) (db_cons (ds_expr (de_callG (ok_need_text Z) z.hg z.o (z.r.mono (by decide)) Z.m_need_text Z.F_need_text.kp (bn_need_text Z) (len_cons (len_cons len_nil)) rfl (da_cons (de_len z.o.K rfl Z.b_len (DE.dp (de_ix z.o.K (de_var (i := 0)) de_int))) (da_cons (de_var (i := 2)) da_nil)))) (db_cons (ds_expr (de_callG (ok_need_text Z) z.hg z.o (z.r.mono (by decide)) Z.m_need_text Z.F_need_text.kp (bn_need_text Z) (len_cons (len_cons len_nil)) rfl (da_cons (de_len z.o.K rfl Z.b_len (DE.dp (de_ix z.o.K (de_var (i := 0)) de_int))) (da_cons (de_var (i := 3)) da_nil)))) (db_one (ds_ret (de_eq z.r.units (de_callG (ok_first_of Z) z.hg z.o (z.r.mono (by decide)) Z.m_first_of Z.F_first_of.kp (bn_first_of Z) (len_cons (len_cons (len_cons len_nil))) rfl (da_cons (de_var (i := 0)) (da_cons (de_var (i := 1)) (da_cons (de_var (i := 2)) da_nil)))) (de_callG (ok_first_of Z) z.hg z.o (z.r.mono (by decide)) Z.m_first_of Z.F_first_of.kp (bn_first_of Z) (len_cons (len_cons (len_cons len_nil))) rfl (da_cons (de_var (i := 0)) (da_cons (de_var (i := 1)) (da_cons (de_var (i := 3)) da_nil)))))))))))
theorem sc__law_taken : FnScope ["_law_row", "_law_many", "_law_found", "_law_cell"] ["_law_row", "_law_many"] (defScope s__law_taken) := ⟨rfl, rfl, rfl, by decide +kernel, rfl, by decide +kernel, by decide +kernel⟩
theorem bn__law_taken (Z : Law w K mg base g) : Binds K Z.fd__law_taken ["_law_row", "_law_many"] [] := Z.F__law_taken.bindsN fun _ _ _ _ _ _ us hl => match us, hl with | [_, _], _ => rfl
theorem ok__law_taken (Z : Law w K mg base g) : FnOk P w K mg base (L2.CX P w) 1 Z.a__law_taken Z.fd__law_taken ["_law_row", "_law_many"] (spD g 2 4 dn__law_taken) :=
  fn_okD Z.F__law_taken sc__law_taken rfl rfl Z.hw Z.hK fun cdv A outer s H E Γ e hr hg ho => by have z : Cz _ Γ g 0 := ⟨hg, ho, hr⟩; exact (db_cons (ds_if (dt_gt (de_ixS (de_var (i := 0)) de_int) de_int) (db_cons (ds_set sc__law_taken.nd rfl (Or.inl rfl) (de_mod (de_int1 rfl Z.b_int (DE.dp (de_ixS (de_var (i := 0)) de_int))) (de_var (i := 1)))) (db_cons (ds_asg (de_fdiv (de_ixS (de_var (i := 0)) de_int) (de_var (i := 1))) (dg_itemS (de_var (i := 0)) de_int)) (db_one (ds_ret (de_var (i := 2)))))) db_nil) (db_cons (ds_asg (de_add (de_ixS (de_var (i := 0)) de_int) de_int) (dg_itemS (de_var (i := 0)) de_int)) (db_cons (ds_if (dt_gt (de_ixS (de_var (i := 0)) de_int) (de_len z.o.K rfl Z.b_len (DE.dp (de_ixS (de_var (i := 0)) de_int)))) (db_cons (ds_asg (de_mod (de_int1 rfl Z.b_int (DE.dp (de_add (de_mul (de_ixS (de_var (i := 0)) de_int) de_int) de_int))) de_int) (dg_itemS (de_var (i := 0)) de_int)) (db_one (ds_ret (de_mod (de_int1 rfl Z.b_int (DE.dp (de_fdiv (de_ixS (de_var (i := 0)) de_int) de_int))) (de_var (i := 1)))))) db_nil) (db_cons (ds_set sc__law_taken.nd rfl (Or.inl rfl) (de_ix z.o.K (de_ixS (de_var (i := 0)) de_int) (de_sub (de_ixS (de_var (i := 0)) de_int) de_int))) (db_cons (ds_asg (de_mod (de_int1 rfl Z.b_int (DE.dp (de_add (de_add (de_mul (de_ixS (de_var (i := 0)) de_int) de_int) (de_var (i := 3))) de_int))) de_int) (dg_itemS (de_var (i := 0)) de_int)) (db_cons (ds_if (dt_ge (de_var (i := 3)) (de_pow de_int de_int)) (db_one (ds_asg (de_fdiv (de_var (i := 3)) (de_var (i := 1))) (dg_itemS (de_var (i := 0)) de_int))) db_nil) (db_one (ds_ret (de_mod (de_int1 rfl Z.b_int (DE.dp (de_var (i := 3)))) (de_var (i := 1)))))))))))
theorem sc__law_plan : FnScope ["_law_row", "_law_letters", "_law_most", "_law_many", "_law_told", "_law_letter", "_law_one"] ["_law_row", "_law_letters", "_law_most"] (defScope s__law_plan) := ⟨rfl, rfl, rfl, by decide +kernel, rfl, by decide +kernel, by decide +kernel⟩
theorem bn__law_plan (Z : Law w K mg base g) : Binds K Z.fd__law_plan ["_law_row", "_law_letters", "_law_most"] [] := Z.F__law_plan.bindsN fun _ _ _ _ _ _ us hl => match us, hl with | [_, _, _], _ => rfl
theorem ok__law_plan (Z : Law w K mg base g) : FnOk P w K mg base (L2.CX P w) 2 Z.a__law_plan Z.fd__law_plan ["_law_row", "_law_letters", "_law_most"] (spD g 3 7 dn__law_plan) :=
  fn_okD Z.F__law_plan sc__law_plan rfl rfl Z.hw Z.hK fun cdv A outer s H E Γ e hr hg ho => by have z : Cz _ Γ g 1 := ⟨hg, ho, hr⟩; have pz := passes_o ho; exact (db_cons (ds_pair (k1 := false) (k2 := true) z.o rfl sc__law_plan.nd (i := 3) (j := 4) rfl rfl (by decide) rfl rfl (DE.dx (de_add de_int (de_callG (ok__law_taken Z) z.hg z.o (z.r.mono (by decide)) Z.m__law_taken Z.F__law_taken.kp (bn__law_taken Z) (len_cons (len_cons len_nil)) rfl (da_cons (de_var (i := 0)) (da_cons (de_var (i := 2)) da_nil))))) (fun G205 e206 o207 => by have z204 := Cz.at_ z e206 o207; exact (DN.dx (dn_lst da_nil)))) (db_cons (ds_for pz rfl (di_range1 rfl Z.b_range (da_cons (de_var (i := 1)) da_nil)) (dg_name sc__law_plan.nd rfl (Or.inl rfl)) (db_one (ds_expr (de_append (i := 4) (de_tuple rfl Z.b_tuple bb_tuple (DN.de (dn_lc rfl sc__law_plan.nd (di_range1 rfl Z.b_range (da_cons (de_var (i := 3)) da_nil)) (blkOk_by (own := [("_law_one", 6)]) rfl) (vs := [6]) (ks := [6]) rfl (by decide) (fun s H C cl fp G209 e210 => in_blk_k z e210 fun z208 => (dk_name sc__law_plan.nd rfl (Or.inl rfl))) (fun s H C cl fp G211 e212 => in_blk_c z e212 fun z208 => (dc_one (dt_gt (de_callG (ok__law_taken Z) z208.hg z208.o (z208.r.mono (by decide)) Z.m__law_taken Z.F__law_taken.kp (bn__law_taken Z) (len_cons (len_cons len_nil)) rfl (da_cons (de_var (i := 0)) (da_cons de_int da_nil))) de_int))) (fun s H C cl fp G213 e214 => in_blk_e z e214 fun z208 => (de_var (i := 6)))))))))) (db_one (ds_ret (de_tup (da_cons (de_var (i := 3)) (da_cons (de_tupleP rfl Z.b_tuple bb_tuple (dp_var (i := 4))) da_nil)))))))
theorem sc__law_texts : FnScope ["_law_letters", "_law_length", "_law_found", "_law_last", "_law_turn", "_law_longer", "_law_text", "_law_letter"] ["_law_letters", "_law_length"] (defScope s__law_texts) := ⟨rfl, rfl, rfl, by decide +kernel, rfl, by decide +kernel, by decide +kernel⟩
theorem bn__law_texts (Z : Law w K mg base g) : Binds K Z.fd__law_texts ["_law_letters", "_law_length"] [] := Z.F__law_texts.bindsN fun _ _ _ _ _ _ us hl => match us, hl with | [_, _], _ => rfl
theorem ok__law_texts (Z : Law w K mg base g) : FnOk P w K mg base (L2.CX P w) 1 Z.a__law_texts Z.fd__law_texts ["_law_letters", "_law_length"] (spD g 2 8 dn__law_texts) :=
  fn_okD Z.F__law_texts sc__law_texts rfl rfl Z.hw Z.hK fun cdv A outer s H E Γ e hr hg ho => by have z : Cz _ Γ g 0 := ⟨hg, ho, hr⟩; have pz := passes_o ho; exact (db_cons (ds_pair (k1 := false) (k2 := false) z.o rfl sc__law_texts.nd (i := 2) (j := 3) rfl rfl (by decide) rfl rfl (DE.dx (de_lst (da_cons (de_tup da_nil) da_nil))) (fun G231 e232 o233 => by have z230 := Cz.at_ z e232 o233; exact (DE.dx (de_lst (da_cons (de_tup da_nil) da_nil))))) (db_cons (ds_for pz rfl (di_range1 rfl Z.b_range (da_cons (de_var (i := 1)) da_nil)) (dg_name sc__law_texts.nd rfl (Or.inl rfl)) (db_cons (ds_set sc__law_texts.nd rfl (Or.inl rfl) (de_lst da_nil)) (db_cons (ds_for pz rfl (di_seq (de_var (i := 3))) (dg_name sc__law_texts.nd rfl (Or.inr rfl)) (db_one (ds_set sc__law_texts.nd rfl (Or.inl rfl) (de_add (de_var (i := 5)) (DN.de (dn_lc rfl sc__law_texts.nd (di_range1 rfl Z.b_range (da_cons (de_var (i := 0)) da_nil)) (blkOk_by (own := [("_law_letter", 7)]) rfl) (vs := [7]) (ks := [7]) rfl (by decide) (fun s H C cl fp G235 e236 => in_blk_k z e236 fun z234 => (dk_name sc__law_texts.nd rfl (Or.inl rfl))) (fun s H C cl fp G237 e238 => in_blk_c z e238 fun z234 => dc_nil) (fun s H C cl fp G239 e240 => in_blk_e z e240 fun z234 => (de_add (de_var (i := 6)) (de_tup (da_cons (de_var (i := 7)) da_nil)))))))))) (db_one (ds_pair (k1 := false) (k2 := false) z.o rfl sc__law_texts.nd (i := 2) (j := 3) rfl rfl (by decide) rfl rfl (DE.dx (de_add (de_var (i := 2)) (de_var (i := 5)))) (fun G242 e243 o244 => by have z241 := Cz.at_ z e243 o244; exact (DE.dx (de_var (i := 5))))))))) (db_one (ds_ret (de_var (i := 2))))))
theorem sc__law_rows : FnScope ["_law_plan_here", "_law_text", "_law_found", "_law_one", "_law_letter"] ["_law_plan_here", "_law_text"] (defScope s__law_rows) := ⟨rfl, rfl, rfl, by decide +kernel, rfl, by decide +kernel, by decide +kernel⟩
theorem bn__law_rows (Z : Law w K mg base g) : Binds K Z.fd__law_rows ["_law_plan_here", "_law_text"] [] := Z.F__law_rows.bindsN fun _ _ _ _ _ _ us hl => match us, hl with | [_, _], _ => rfl
theorem ok__law_rows (Z : Law w K mg base g) : FnOk P w K mg base (L2.CX P w) 1 Z.a__law_rows Z.fd__law_rows ["_law_plan_here", "_law_text"] (spD g 2 5 dn__law_rows) :=
  fn_okD Z.F__law_rows sc__law_rows rfl rfl Z.hw Z.hK fun cdv A outer s H E Γ e hr hg ho => by have z : Cz _ Γ g 0 := ⟨hg, ho, hr⟩; have pz := passes_o ho; exact (db_cons (ds_own sc__law_rows.nd rfl (Or.inl rfl) (dn_lst da_nil)) (db_cons (ds_for pz rfl (di_range1 rfl Z.b_range (da_cons (de_ix z.o.K (de_var (i := 0)) de_int) da_nil)) (dg_name sc__law_rows.nd rfl (Or.inr rfl)) (db_one (ds_expr (de_append (i := 2) (de_tuple rfl Z.b_tuple bb_tuple (DN.de (dn_lc rfl sc__law_rows.nd (di_seq (de_var (i := 1))) (blkOk_by (own := [("_law_letter", 4)]) rfl) (vs := [4]) (ks := [4]) rfl (by decide) (fun s H C cl fp G253 e254 => in_blk_k z e254 fun z252 => (dk_name sc__law_rows.nd rfl (Or.inl rfl))) (fun s H C cl fp G255 e256 => in_blk_c z e256 fun z252 => (dc_one (dt_in z252.r.units (de_var (i := 3)) (DE.dp (de_ix z252.o.K (de_ix z252.o.K (de_var (i := 0)) de_int) (de_var (i := 4))))))) (fun s H C cl fp G257 e258 => in_blk_e z e258 fun z252 => (de_var (i := 4)))))))))) (db_one (ds_ret (de_tupleP rfl Z.b_tuple bb_tuple (dp_var (i := 2)))))))
theorem sc__law_starts : FnScope ["_law_short", "_law_row"] ["_law_short", "_law_row"] (defScope s__law_starts) := ⟨rfl, rfl, rfl, by decide +kernel, rfl, by decide +kernel, by decide +kernel⟩
theorem bn__law_starts (Z : Law w K mg base g) : Binds K Z.fd__law_starts ["_law_short", "_law_row"] [] := Z.F__law_starts.bindsN fun _ _ _ _ _ _ us hl => match us, hl with | [_, _], _ => rfl
theorem ok__law_starts (Z : Law w K mg base g) : FnOk P w K mg base (L2.CX P w) 1 Z.a__law_starts Z.fd__law_starts ["_law_short", "_law_row"] (spD g 2 2 dn__law_starts) :=
  fn_okD Z.F__law_starts sc__law_starts rfl rfl Z.hw Z.hK fun cdv A outer s H E Γ e hr hg ho => by have z : Cz _ Γ g 0 := ⟨hg, ho, hr⟩; exact (db_one (ds_ret (de_and (de_le (de_len z.o.K rfl Z.b_len (DE.dp (de_var (i := 0)))) (de_len z.o.K rfl Z.b_len (DE.dp (de_var (i := 1))))) (de_one (de_eq z.r.units (de_slice (de_var (i := 1)) do_none (do_some (de_len z.o.K rfl Z.b_len (DE.dp (de_var (i := 0)))))) (de_var (i := 0)))))))
theorem sc__law_joined : FnScope ["_law_first", "_law_second", "_law_liars", "_law_lost", "_law_one", "_law_other", "_law_rest", "_law_left", "_law_right", "_law_a", "_law_b", "_law_both"] ["_law_first", "_law_second", "_law_liars", "_law_lost"] (defScope s__law_joined) := ⟨rfl, rfl, rfl, by decide +kernel, rfl, by decide +kernel, by decide +kernel⟩
theorem bn__law_joined (Z : Law w K mg base g) : Binds K Z.fd__law_joined ["_law_first", "_law_second", "_law_liars", "_law_lost"] [] := Z.F__law_joined.bindsN fun _ _ _ _ _ _ us hl => match us, hl with | [_, _, _, _], _ => rfl
theorem ok__law_joined (Z : Law w K mg base g) : FnOk P w K mg base (L2.CX P w) 2 Z.a__law_joined Z.fd__law_joined ["_law_first", "_law_second", "_law_liars", "_law_lost"] (spD g 4 12 dn__law_joined) :=
  fn_okD Z.F__law_joined sc__law_joined rfl rfl Z.hw Z.hK fun cdv A outer s H E Γ e hr hg ho => by have z : Cz _ Γ g 1 := ⟨hg, ho, hr⟩; have pz := passes_o ho; exact (db_cons (ds_asg (de_tup (da_cons de_int (da_cons de_int (da_cons de_int da_nil)))) (dg_tup rfl (dgs_cons (dg_name sc__law_joined.nd rfl (Or.inl rfl)) (dgs_cons (dg_name sc__law_joined.nd rfl (Or.inl rfl)) (dgs_cons (dg_name sc__law_joined.nd rfl (Or.inl rfl)) dgs_nil))))) (db_cons (ds_for pz rfl (di_zip rfl Z.b_zip (da_cons (de_var (i := 0)) (da_cons (de_var (i := 1)) da_nil))) (dg_tup rfl (dgs_cons (dg_name sc__law_joined.nd rfl (Or.inl rfl)) (dgs_cons (dg_name sc__law_joined.nd rfl (Or.inl rfl)) dgs_nil))) (db_one (ds_if (dt_ne z.r.units (de_var (i := 7)) (de_var (i := 8))) (db_one (ds_if (dt_bool (de_callG (ok__law_starts Z) z.hg z.o (z.r.mono (by decide)) Z.m__law_starts Z.F__law_starts.kp (bn__law_starts Z) (len_cons (len_cons len_nil)) rfl (da_cons (de_var (i := 8)) (da_cons (de_var (i := 7)) da_nil)))) (db_one (ds_set sc__law_joined.nd rfl (Or.inl rfl) (de_add (de_var (i := 4)) de_int))) (db_one (ds_if (dt_bool (de_callG (ok__law_starts Z) z.hg z.o (z.r.mono (by decide)) Z.m__law_starts Z.F__law_starts.kp (bn__law_starts Z) (len_cons (len_cons len_nil)) rfl (da_cons (de_var (i := 7)) (da_cons (de_var (i := 8)) da_nil)))) (db_one (ds_set sc__law_joined.nd rfl (Or.inl rfl) (de_add (de_var (i := 5)) de_int))) (db_one (ds_set sc__law_joined.nd rfl (Or.inl rfl) (de_add (de_var (i := 6)) de_int))))))) db_nil))) (db_cons (ds_for pz rfl (di_range1 rfl Z.b_range (da_cons (de_add (de_min2 rfl rfl Z.b_min bb_min (da_cons (de_var (i := 4)) (da_cons (de_var (i := 3)) da_nil))) de_int) da_nil)) (dg_name sc__law_joined.nd rfl (Or.inl rfl)) (db_one (ds_for pz rfl (di_range1 rfl Z.b_range (da_cons (de_add (de_min2 rfl rfl Z.b_min bb_min (da_cons (de_var (i := 5)) (da_cons (de_var (i := 3)) da_nil))) de_int) da_nil)) (dg_name sc__law_joined.nd rfl (Or.inl rfl)) (db_cons (ds_set sc__law_joined.nd rfl (Or.inl rfl) (de_min3 rfl rfl Z.b_min bb_min (da_cons (de_sub (de_var (i := 3)) (de_var (i := 9))) (da_cons (de_sub (de_var (i := 3)) (de_var (i := 10))) (da_cons (de_sub (de_sub (de_add (de_add (de_var (i := 4)) (de_var (i := 5))) (de_var (i := 6))) (de_var (i := 9))) (de_var (i := 10))) da_nil))))) (db_one (ds_if (dt_le (de_sub (de_sub (de_sub (de_add (de_add (de_var (i := 4)) (de_var (i := 5))) (de_var (i := 6))) (de_var (i := 9))) (de_var (i := 10))) (de_var (i := 11))) (de_mul de_int (de_var (i := 2)))) (db_one (ds_ret de_bl)) db_nil)))))) (db_one (ds_ret de_bl)))))
theorem sc__law_pick : FnScope ["_law_row", "_law_things"] ["_law_row", "_law_things"] (defScope s__law_pick) := ⟨rfl, rfl, rfl, by decide +kernel, rfl, by decide +kernel, by decide +kernel⟩
theorem bn__law_pick (Z : Law w K mg base g) : Binds K Z.fd__law_pick ["_law_row", "_law_things"] [] := Z.F__law_pick.bindsN fun _ _ _ _ _ _ us hl => match us, hl with | [_, _], _ => rfl
theorem ok__law_pick (Z : Law w K mg base g) : FnOk P w K mg base (L2.CX P w) 2 Z.a__law_pick Z.fd__law_pick ["_law_row", "_law_things"] (spD g 2 2 dn__law_pick) :=
  fn_okD Z.F__law_pick sc__law_pick rfl rfl Z.hw Z.hK fun cdv A outer s H E Γ e hr hg ho => by have z : Cz _ Γ g 1 := ⟨hg, ho, hr⟩; exact (db_one (ds_ret (de_ix z.o.K (de_var (i := 1)) (de_callG (ok__law_taken Z) z.hg z.o (z.r.mono (by decide)) Z.m__law_taken Z.F__law_taken.kp (bn__law_taken Z) (len_cons (len_cons len_nil)) rfl (da_cons (de_var (i := 0)) (da_cons (de_len z.o.K rfl Z.b_len (DE.dp (de_var (i := 1)))) da_nil))))))
theorem sc__law_common : FnScope ["_law_plan_here", "_law_one", "_law_other", "_law_messenger"] ["_law_plan_here", "_law_one", "_law_other"] (defScope s__law_common) := ⟨rfl, rfl, rfl, by decide +kernel, rfl, by decide +kernel, by decide +kernel⟩
theorem bn__law_common (Z : Law w K mg base g) : Binds K Z.fd__law_common ["_law_plan_here", "_law_one", "_law_other"] [] := Z.F__law_common.bindsN fun _ _ _ _ _ _ us hl => match us, hl with | [_, _, _], _ => rfl
theorem ok__law_common (Z : Law w K mg base g) : FnOk P w K mg base (L2.CX P w) 1 Z.a__law_common Z.fd__law_common ["_law_plan_here", "_law_one", "_law_other"] (spD g 3 4 dn__law_common) :=
  fn_okD Z.F__law_common sc__law_common rfl rfl Z.hw Z.hK fun cdv A outer s H E Γ e hr hg ho => by have z : Cz _ Γ g 0 := ⟨hg, ho, hr⟩; exact (db_one (ds_ret (DN.de (dn_lc rfl sc__law_common.nd (di_seq (de_ix z.o.K (de_ix z.o.K (de_var (i := 0)) de_int) (de_var (i := 1)))) (blkOk_by (own := [("_law_messenger", 3)]) rfl) (vs := [3]) (ks := [3]) rfl (by decide) (fun s H C cl fp G267 e268 => in_blk_k z e268 fun z266 => (dk_name sc__law_common.nd rfl (Or.inl rfl))) (fun s H C cl fp G269 e270 => in_blk_c z e270 fun z266 => (dc_one (dt_in z266.r.units (de_var (i := 3)) (DE.dp (de_ix z266.o.K (de_ix z266.o.K (de_var (i := 0)) de_int) (de_var (i := 2))))))) (fun s H C cl fp G271 e272 => in_blk_e z e272 fun z266 => (de_var (i := 3)))))))
theorem sc__law_steps : FnScope ["_law_plan_here", "_law_count", "_law_text", "_law_found", "_law_at"] ["_law_plan_here", "_law_count", "_law_text"] (defScope s__law_steps) := ⟨rfl, rfl, rfl, by decide +kernel, rfl, by decide +kernel, by decide +kernel⟩
theorem bn__law_steps (Z : Law w K mg base g) : Binds K Z.fd__law_steps ["_law_plan_here", "_law_count", "_law_text"] [] := Z.F__law_steps.bindsN fun _ _ _ _ _ _ us hl => match us, hl with | [_, _, _], _ => rfl
theorem ok__law_steps (Z : Law w K mg base g) : FnOk P w K mg base (L2.CX P w) 2 Z.a__law_steps Z.fd__law_steps ["_law_plan_here", "_law_count", "_law_text"] (spD g 3 5 dn__law_steps) :=
  fn_okD Z.F__law_steps sc__law_steps rfl rfl Z.hw Z.hK fun cdv A outer s H E Γ e hr hg ho => by have z : Cz _ Γ g 1 := ⟨hg, ho, hr⟩; have pz := passes_o ho; exact (db_cons (ds_own sc__law_steps.nd rfl (Or.inl rfl) (dn_lst da_nil)) (db_cons (ds_for pz rfl (di_range1 rfl Z.b_range (da_cons (de_len z.o.K rfl Z.b_len (DE.dp (de_var (i := 2)))) da_nil)) (dg_name sc__law_steps.nd rfl (Or.inl rfl)) (db_cons (ds_if (dt_lt (de_len z.o.K rfl Z.b_len (DE.dp (de_ix z.o.K (de_ix z.o.K (de_var (i := 0)) de_int) (de_ix z.o.K (de_var (i := 2)) (de_var (i := 4)))))) (de_var (i := 1))) (db_one (ds_expr (de_append (i := 3) (de_add (de_slice (de_var (i := 2)) do_none (do_some (de_var (i := 4)))) (de_slice (de_var (i := 2)) (do_some (de_add (de_var (i := 4)) de_int)) do_none))))) db_nil) (db_one (ds_if (dw_dt (dw_and (dt_gt (de_var (i := 4)) de_int) (dw_and (dt_ne z.r.units (de_ix z.o.K (de_var (i := 2)) (de_sub (de_var (i := 4)) de_int)) (de_ix z.o.K (de_var (i := 2)) (de_var (i := 4)))) (dw_and1 (dt_lt (de_len z.o.K rfl Z.b_len (DE.dp (de_callG (ok__law_common Z) z.hg z.o (z.r.mono (by decide)) Z.m__law_common Z.F__law_common.kp (bn__law_common Z) (len_cons (len_cons (len_cons len_nil))) rfl (da_cons (de_var (i := 0)) (da_cons (de_ix z.o.K (de_var (i := 2)) (de_sub (de_var (i := 4)) de_int)) (da_cons (de_ix z.o.K (de_var (i := 2)) (de_var (i := 4))) da_nil)))))) (de_var (i := 1))))))) (db_one (ds_expr (de_append (i := 3) (de_add (de_add (de_slice (de_var (i := 2)) do_none (do_some (de_sub (de_var (i := 4)) de_int))) (de_tup (da_cons (de_ix z.o.K (de_var (i := 2)) (de_var (i := 4))) (da_cons (de_ix z.o.K (de_var (i := 2)) (de_sub (de_var (i := 4)) de_int)) da_nil)))) (de_slice (de_var (i := 2)) (do_some (de_add (de_var (i := 4)) de_int)) do_none))))) db_nil)))) (db_one (ds_ret (de_var (i := 3))))))
theorem sc__law_shared : FnScope ["_law_plan_here", "_law_liars", "_law_lost", "_law_one", "_law_other", "_law_first", "_law_second", "_law_found", "_law_spent", "_law_left", "_law_right", "_law_short"] ["_law_plan_here", "_law_liars", "_law_lost", "_law_one", "_law_other"] (defScope s__law_shared) := ⟨rfl, rfl, rfl, by decide +kernel, rfl, by decide +kernel, by decide +kernel⟩
theorem bn__law_shared (Z : Law w K mg base g) : Binds K Z.fd__law_shared ["_law_plan_here", "_law_liars", "_law_lost", "_law_one", "_law_other"] [] := Z.F__law_shared.bindsN fun _ _ _ _ _ _ us hl => match us, hl with | [_, _, _, _, _], _ => rfl
theorem ok__law_shared (Z : Law w K mg base g) : FnOk P w K mg base (L2.CX P w) 2 Z.a__law_shared Z.fd__law_shared ["_law_plan_here", "_law_liars", "_law_lost", "_law_one", "_law_other"] (spD g 5 12 dn__law_shared) :=
  fn_okD Z.F__law_shared sc__law_shared rfl rfl Z.hw Z.hK fun cdv A outer s H E Γ e hr hg ho => by have z : Cz _ Γ g 1 := ⟨hg, ho, hr⟩; have pz := passes_o ho; exact (db_cons (ds_pair (k1 := false) (k2 := false) z.o rfl sc__law_shared.nd (i := 5) (j := 6) rfl rfl (by decide) rfl rfl (DE.dx (de_callG (ok__law_rows Z) z.hg z.o (z.r.mono (by decide)) Z.m__law_rows Z.F__law_rows.kp (bn__law_rows Z) (len_cons (len_cons len_nil)) rfl (da_cons (de_var (i := 0)) (da_cons (de_var (i := 3)) da_nil)))) (fun G282 e283 o284 => by have z281 := Cz.at_ z e283 o284; exact (DE.dx (de_callG (ok__law_rows Z) z281.hg z281.o (z281.r.mono (by decide)) Z.m__law_rows Z.F__law_rows.kp (bn__law_rows Z) (len_cons (len_cons len_nil)) rfl (da_cons (de_var (i := 0)) (da_cons (de_var (i := 4)) da_nil)))))) (db_cons (ds_pair (k1 := true) (k2 := false) z.o rfl sc__law_shared.nd (i := 7) (j := 8) rfl rfl (by decide) rfl rfl (DN.dx (dn_lst da_nil)) (fun G286 e287 o288 => by have z285 := Cz.at_ z e287 o288; exact (DE.dx de_int))) (db_cons (ds_for pz rfl (di_zip rfl Z.b_zip (da_cons (de_var (i := 5)) (da_cons (de_var (i := 6)) da_nil))) (dg_tup rfl (dgs_cons (dg_name sc__law_shared.nd rfl (Or.inl rfl)) (dgs_cons (dg_name sc__law_shared.nd rfl (Or.inl rfl)) dgs_nil))) (db_one (ds_if (dt_eq z.r.units (de_var (i := 9)) (de_var (i := 10))) (db_one (ds_expr (de_append (i := 7) (de_var (i := 9))))) (db_cons (ds_set sc__law_shared.nd rfl (Or.inl rfl) de_int) (db_cons (ds_while 64 pz (dw_dt (dw_and (dt_eq z.r.units (de_slice (de_var (i := 9)) do_none (do_some (de_add (de_var (i := 11)) de_int))) (de_slice (de_var (i := 10)) do_none (do_some (de_add (de_var (i := 11)) de_int)))) (dw_and1 (dt_lt (de_var (i := 11)) (de_min2 rfl rfl Z.b_min bb_min (da_cons (de_len z.o.K rfl Z.b_len (DE.dp (de_var (i := 9)))) (da_cons (de_len z.o.K rfl Z.b_len (DE.dp (de_var (i := 10)))) da_nil))))))) (db_one (ds_set sc__law_shared.nd rfl (Or.inl rfl) (de_add (de_var (i := 11)) de_int)))) (db_cons (ds_expr (de_append (i := 7) (de_if (dt_lt (de_var (i := 8)) (de_mul de_int (de_var (i := 1)))) (de_ix z.o.K (de_lst (da_cons (de_var (i := 10)) (da_cons (de_var (i := 9)) da_nil))) (de_int1 rfl Z.b_int (DE.dp (de_ge (de_var (i := 8)) (de_var (i := 1)))))) (de_slice (de_var (i := 9)) do_none (do_some (de_var (i := 11))))))) (db_one (ds_set sc__law_shared.nd rfl (Or.inl rfl) (de_add (de_var (i := 8)) de_int))))))))) (db_one (ds_ret (de_tupleP rfl Z.b_tuple bb_tuple (dp_var (i := 7))))))))
theorem sc_law : FnScope ["_law_script", "_law_row", "_law_letters", "_law_plan_here", "_law_liars", "_law_lost", "_law_count", "_law_texts_here", "_law_told", "_law_turn", "_law_at", "_law_spot", "_law_text", "_law_other", "_law_post"] ["_law_script"] (defScope s_law) := ⟨rfl, rfl, rfl, by decide +kernel, rfl, by decide +kernel, by decide +kernel⟩
theorem bn_law (Z : Law w K mg base g) : Binds K Z.fd_law ["_law_script"] [] := Z.F_law.bindsN fun _ _ _ _ _ _ us hl => match us, hl with | [_], _ => rfl
theorem ok_law (Z : Law w K mg base g) : FnOk P w K mg base (L2.CX P w) 7 Z.a_law Z.fd_law ["_law_script"] (spD g 1 15 dn_law) :=
  fn_okD Z.F_law sc_law rfl rfl Z.hw Z.hK fun cdv A outer s H E Γ e hr hg ho => by have z : Cz _ Γ g 6 := ⟨hg, ho, hr⟩; have pz := passes_o ho; exact (db_cons (ds_new sc_law.nd rfl (Or.inl rfl) (dn_lst (da_cons (de_var (i := 0)) (da_cons de_int (da_cons de_int (da_cons de_int da_nil)))))) (db_cons (ds_set sc_law.nd rfl (Or.inl rfl) (de_add de_int (de_callG (ok__law_taken Z) z.hg z.o (z.r.mono (by decide)) Z.m__law_taken Z.F__law_taken.kp (bn__law_taken Z) (len_cons (len_cons len_nil)) rfl (da_cons (de_var (i := 1)) (da_cons de_int da_nil))))) (db_cons (ds_asg (de_tup (da_cons (de_callG (ok__law_plan Z) z.hg z.o (z.r.mono (by decide)) Z.m__law_plan Z.F__law_plan.kp (bn__law_plan Z) (len_cons (len_cons (len_cons len_nil))) rfl (da_cons (de_var (i := 1)) (da_cons (de_var (i := 2)) (da_cons de_int da_nil)))) (da_cons (de_callG (ok__law_taken Z) z.hg z.o (z.r.mono (by decide)) Z.m__law_taken Z.F__law_taken.kp (bn__law_taken Z) (len_cons (len_cons len_nil)) rfl (da_cons (de_var (i := 1)) (da_cons de_int da_nil))) (da_cons (de_callG (ok__law_taken Z) z.hg z.o (z.r.mono (by decide)) Z.m__law_taken Z.F__law_taken.kp (bn__law_taken Z) (len_cons (len_cons len_nil)) rfl (da_cons (de_var (i := 1)) (da_cons de_int da_nil))) da_nil)))) (dg_tup rfl (dgs_cons (dg_name sc_law.nd rfl (Or.inr rfl)) (dgs_cons (dg_name sc_law.nd rfl (Or.inl rfl)) (dgs_cons (dg_name sc_law.nd rfl (Or.inl rfl)) dgs_nil))))) (db_cons (ds_set sc_law.nd rfl (Or.inl rfl) (de_add (de_add (de_mul de_int (de_var (i := 4))) (de_var (i := 5))) de_int)) (db_cons (ds_set sc_law.nd rfl (Or.inl rfl) (de_callG (ok__law_texts Z) z.hg z.o (z.r.mono (by decide)) Z.m__law_texts Z.F__law_texts.kp (bn__law_texts Z) (len_cons (len_cons len_nil)) rfl (da_cons (de_var (i := 2)) (da_cons (de_if (dt_lt (de_var (i := 2)) de_int) de_int de_int) da_nil)))) (db_cons (ds_setLc (i := 8) rfl sc_law.nd rfl rfl (di_seq (de_var (i := 7))) (blkOk_by (own := [("_law_text", 12)]) rfl) (vs := [12]) (ks := [12]) rfl (by decide) (fun s H C cl fp G301 e302 => in_blk_k z e302 fun z300 => (dk_name sc_law.nd rfl (Or.inl rfl))) (fun s H C cl fp G303 e304 => in_blk_c z e304 fun z300 => dc_nil) (fun s H C cl fp G305 e306 => in_blk_e z e306 fun z300 => (de_callG (ok__law_rows Z) z300.hg z300.o (z300.r.mono (by decide)) Z.m__law_rows Z.F__law_rows.kp (bn__law_rows Z) (len_cons (len_cons len_nil)) rfl (da_cons (de_var (i := 3)) (da_cons (de_var (i := 12)) da_nil))))) (db_cons (ds_for pz rfl (di_range1 rfl Z.b_range (da_cons de_int da_nil)) (dg_name sc_law.nd rfl (Or.inl rfl)) (db_cons (ds_pair (k1 := false) (k2 := false) z.o rfl sc_law.nd (i := 10) (j := 11) rfl rfl (by decide) rfl rfl (DE.dx (de_callG (ok__law_taken Z) z.hg z.o (z.r.mono (by decide)) Z.m__law_taken Z.F__law_taken.kp (bn__law_taken Z) (len_cons (len_cons len_nil)) rfl (da_cons (de_var (i := 1)) (da_cons (de_len z.o.K rfl Z.b_len (DE.dp (de_var (i := 7)))) da_nil)))) (fun G308 e309 o310 => by have z307 := Cz.at_ z e309 o310; exact (DE.dx (de_callG (ok__law_taken Z) z307.hg z307.o (z307.r.mono (by decide)) Z.m__law_taken Z.F__law_taken.kp (bn__law_taken Z) (len_cons (len_cons len_nil)) rfl (da_cons (de_var (i := 1)) (da_cons (de_len z307.o.K rfl Z.b_len (DE.dp (de_var (i := 7)))) da_nil)))))) (db_one (ds_if (dw_dt (dw_and (dt_bool (de_callG (ok__law_joined Z) z.hg z.o (z.r.mono (by decide)) Z.m__law_joined Z.F__law_joined.kp (bn__law_joined Z) (len_cons (len_cons (len_cons (len_cons len_nil)))) rfl (da_cons (de_ix z.o.K (de_var (i := 8)) (de_var (i := 10))) (da_cons (de_ix z.o.K (de_var (i := 8)) (de_var (i := 11))) (da_cons (de_var (i := 4)) (da_cons (de_var (i := 5)) da_nil)))))) (dw_and1 (dt_not (dt_bool (de_callG (ok_alike Z) z.hg z.o (z.r.mono (by decide)) Z.m_alike Z.F_alike.kp (bn_alike Z) (len_cons (len_cons (len_cons (len_cons len_nil)))) rfl (da_cons (de_var (i := 3)) (da_cons (de_var (i := 6)) (da_cons (de_ix z.o.K (de_var (i := 7)) (de_var (i := 10))) (da_cons (de_ix z.o.K (de_var (i := 7)) (de_var (i := 11))) da_nil)))))))))) (db_one (ds_ret de_bl)) db_nil)))) (db_cons (ds_set sc_law.nd rfl (Or.inl rfl) (de_callG (ok__law_pick Z) z.hg z.o (z.r.mono (by decide)) Z.m__law_pick Z.F__law_pick.kp (bn__law_pick Z) (len_cons (len_cons len_nil)) rfl (da_cons (de_var (i := 1)) (da_cons (de_var (i := 7)) da_nil)))) (db_cons (ds_for pz rfl (di_seq (de_callG (ok__law_steps Z) z.hg z.o (z.r.mono (by decide)) Z.m__law_steps Z.F__law_steps.kp (bn__law_steps Z) (len_cons (len_cons (len_cons len_nil))) rfl (da_cons (de_var (i := 3)) (da_cons (de_var (i := 6)) (da_cons (de_var (i := 12)) da_nil))))) (dg_name sc_law.nd rfl (Or.inl rfl)) (db_cons (ds_if (dw_dt (dw_or (dt_not (dt_bool (de_callG (ok_alike Z) z.hg z.o (z.r.mono (by decide)) Z.m_alike Z.F_alike.kp (bn_alike Z) (len_cons (len_cons (len_cons (len_cons len_nil)))) rfl (da_cons (de_var (i := 3)) (da_cons (de_var (i := 6)) (da_cons (de_var (i := 12)) (da_cons (de_var (i := 13)) da_nil))))))) (dw_or1 (dt_ne z.r.units (de_callG (ok_first_alike Z) z.hg z.o (z.r.mono (by decide)) Z.m_first_alike Z.F_first_alike.kp (bn_first_alike Z) (len_cons (len_cons (len_cons len_nil))) rfl (da_cons (de_var (i := 3)) (da_cons (de_var (i := 6)) (da_cons (de_var (i := 12)) da_nil)))) (de_callG (ok_first_alike Z) z.hg z.o (z.r.mono (by decide)) Z.m_first_alike Z.F_first_alike.kp (bn_first_alike Z) (len_cons (len_cons (len_cons len_nil))) rfl (da_cons (de_var (i := 3)) (da_cons (de_var (i := 6)) (da_cons (de_var (i := 13)) da_nil)))))))) (db_one (ds_ret de_bl)) db_nil) (db_cons (ds_set sc_law.nd rfl (Or.inl rfl) (de_callG (ok__law_shared Z) z.hg z.o (z.r.mono (by decide)) Z.m__law_shared Z.F__law_shared.kp (bn__law_shared Z) (len_cons (len_cons (len_cons (len_cons (len_cons len_nil))))) rfl (da_cons (de_var (i := 3)) (da_cons (de_var (i := 4)) (da_cons (de_var (i := 5)) (da_cons (de_var (i := 12)) (da_cons (de_var (i := 13)) da_nil))))))) (db_one (ds_if (dw_dt (dw_or (dt_not (dt_bool (de_callG (ok_can_come Z) z.hg z.o (z.r.mono (by decide)) Z.m_can_come Z.F_can_come.kp (bn_can_come Z) (len_cons (len_cons (len_cons (len_cons (len_cons len_nil))))) rfl (da_cons (de_var (i := 3)) (da_cons (de_var (i := 4)) (da_cons (de_var (i := 5)) (da_cons (de_var (i := 12)) (da_cons (de_var (i := 14)) da_nil)))))))) (dw_or1 (dt_not (dt_bool (de_callG (ok_can_come Z) z.hg z.o (z.r.mono (by decide)) Z.m_can_come Z.F_can_come.kp (bn_can_come Z) (len_cons (len_cons (len_cons (len_cons (len_cons len_nil))))) rfl (da_cons (de_var (i := 3)) (da_cons (de_var (i := 4)) (da_cons (de_var (i := 5)) (da_cons (de_var (i := 13)) (da_cons (de_var (i := 14)) da_nil))))))))))) (db_one (ds_ret de_bl)) db_nil))))) (db_one (ds_ret de_bl)))))))))))
end LawT


set_option Elab.async false
set_option linter.all false
set_option maxRecDepth 100000
set_option maxHeartbeats 4000000
/-! the sums of law_k12: no program here -/
namespace Plain
open Dl (minBy)
/-! ### lists without repeats -/
theorem nodup_len {α : Type} [DecidableEq α] : ∀ (a b : List α), a.Nodup → (∀ x ∈ a, x ∈ b) → a.length ≤ b.length
  | [], b, _, _ => by simp
  | x :: a, b, hn, hs => by
    have hx := hs x List.mem_cons_self
    have h1 := nodup_len a (b.erase x) (List.nodup_cons.mp hn).2 fun y hy => by
      have hne : y ≠ x := fun e => (List.nodup_cons.mp hn).1 (e ▸ hy)
      exact (List.mem_erase_of_ne hne).mpr (hs y (List.mem_cons_of_mem _ hy))
    have h2 := List.length_erase_of_mem hx
    have h3 := List.length_pos_of_mem hx
    simp only [List.length_cons]
    omega
theorem nodup_of_inc {l : List Int} (h : l.Pairwise (· < ·)) : l.Nodup :=
  h.imp fun h e => by omega
/-! ### the least form of a text -/
section
variable (dep : Int → Int → Bool)
def pr (x y : Int) (t : List Int) : List Int := t.filter fun z => z == x || z == y
def Sig (s t : List Int) : Prop := ∀ x y, dep x y = true → pr x y s = pr x y t
def Fr (l : List Int) (x : Int) : Prop := ∃ c d, l = c ++ x :: d ∧ ∀ z ∈ c, dep x z = false
variable {dep}
theorem pr_nil {x y : Int} {c : List Int} (h : ∀ z ∈ c, z ≠ x ∧ z ≠ y) : pr x y c = [] := by
  simp only [pr, List.filter_eq_nil_iff, Bool.or_eq_true, beq_iff_eq, not_or]
  exact h
theorem Sig.symm {s t : List Int} (h : Sig dep s t) : Sig dep t s := fun x y d => (h x y d).symm
theorem Sig.trans {s t u : List Int} (h : Sig dep s t) (k : Sig dep t u) : Sig dep s u := fun x y d => (h x y d).trans (k x y d)
theorem Sig.refl (s : List Int) : Sig dep s s := fun _ _ _ => rfl
theorem no_self {x : Int} {c : List Int} (hx : dep x x = true) (hc : ∀ z ∈ c, dep x z = false) (y : Int) (hy : dep x y = true) : ∀ z ∈ c, z ≠ x ∧ z ≠ y := by
  intro z hz
  have := hc z hz
  constructor
  · rintro rfl
    simp [hx] at this
  · rintro rfl
    simp [hy] at this
theorem Fr.sig {l l' : List Int} {x : Int} (h : Fr dep l x) (hs : Sig dep l l') (hx : dep x x = true) : Fr dep l' x := by
  obtain ⟨c, d, rfl, hc⟩ := h
  have e0 := hs x x hx
  have hm : x ∈ pr x x l' := by
    rw [← e0]
    simp [pr]
  have hm' : x ∈ l' := (List.mem_filter.mp hm).1
  obtain ⟨a, b, rfl, ha⟩ := List.eq_append_cons_of_mem hm'
  refine ⟨a, b, rfl, ?_⟩
  intro y hy
  cases hd : dep x y with
  | false => rfl
  | true =>
    exfalso
    have e := hs x y hd
    have h1 : pr x y c = [] := pr_nil (no_self hx hc y hd)
    have h2 : pr x y (c ++ x :: d) = x :: pr x y d := by
      have : pr x y (c ++ x :: d) = pr x y c ++ pr x y (x :: d) := List.filter_append ..
      rw [this, h1]
      simp [pr]
    have h3 : pr x y (a ++ x :: b) = pr x y a ++ pr x y (x :: b) := List.filter_append ..
    have h4 : y ∈ pr x y a := by simp [pr, hy]
    rw [h2, h3] at e
    cases hp : pr x y a with
    | nil => simp [hp] at h4
    | cons u us =>
      rw [hp] at e
      simp only [List.cons_append, List.cons.injEq] at e
      have : u ∈ pr x y a := by rw [hp]; exact List.mem_cons_self
      have := (List.mem_filter.mp this).1
      rw [← e.1] at this
      exact ha this
theorem sig_erase {c d c' d' : List Int} {x : Int} (hsym : ∀ a b, dep a b = dep b a) (hx : dep x x = true)
    (hc : ∀ z ∈ c, dep x z = false) (hc' : ∀ z ∈ c', dep x z = false) (hs : Sig dep (c ++ x :: d) (c' ++ x :: d')) : Sig dep (c ++ d) (c' ++ d') := by
  intro u v hd
  have e := hs u v hd
  have f : ∀ p q : List Int, pr u v (p ++ q) = pr u v p ++ pr u v q := fun p q => List.filter_append ..
  have f2 : ∀ q : List Int, pr u v (x :: q) = (if x = u ∨ x = v then x :: pr u v q else pr u v q) := by
    intro q
    by_cases h : x = u ∨ x = v
    · rw [if_pos h]
      simp only [pr]
      rw [List.filter_cons_of_pos (by simpa using h)]
    · rw [if_neg h]
      simp only [pr]
      rw [List.filter_cons_of_neg (by simpa using h)]
  rw [f, f, f2, f2] at e
  rw [f, f]
  by_cases h : x = u ∨ x = v
  · rw [if_pos h, if_pos h] at e
    have h1 : pr u v c = [] ∧ pr u v c' = [] := by
      rcases h with rfl | rfl
      · exact ⟨pr_nil (no_self hx hc v hd), pr_nil (no_self hx hc' v hd)⟩
      · rw [hsym] at hd
        exact ⟨pr_nil fun z hz => (no_self hx hc u hd z hz).symm, pr_nil fun z hz => (no_self hx hc' u hd z hz).symm⟩
    rw [h1.1, h1.2] at e ⊢
    simpa using e
  · rw [if_neg h, if_neg h] at e
    exact e
theorem minBy_spec {α : Type} (k : α → Int) : ∀ (ds : List α) (b : α), minBy k b ds ∈ b :: ds ∧ ∀ d ∈ b :: ds, k (minBy k b ds) ≤ k d
  | [], b => by simp [minBy]
  | d :: ds, b => by
    rw [minBy]
    split
    · next h =>
      obtain ⟨h1, h2⟩ := minBy_spec k ds d
      refine ⟨List.mem_cons_of_mem _ h1, ?_⟩
      intro e he
      rcases List.mem_cons.mp he with rfl | he
      · have := h2 d List.mem_cons_self
        omega
      · exact h2 e he
    · next h =>
      obtain ⟨h1, h2⟩ := minBy_spec k ds b
      constructor
      · rcases List.mem_cons.mp h1 with h1 | h1
        · rw [h1]; exact List.mem_cons_self
        · exact List.mem_cons_of_mem _ (List.mem_cons_of_mem _ h1)
      · intro e he
        rcases List.mem_cons.mp he with rfl | he
        · exact h2 _ List.mem_cons_self
        · rcases List.mem_cons.mp he with rfl | he
          · have := h2 b List.mem_cons_self
            omega
          · exact h2 e (List.mem_cons_of_mem _ he)
variable (dep) in
def fronts (l : List Int) : List Nat := (List.range l.length).filter fun i => (l.take i).all fun y => !dep (l.getD i 0) y
variable (dep) in
def pick (l : List Int) : Nat := match fronts dep l with
  | [] => 0
  | a :: as => minBy (fun i => l.getD i 0) a as
variable (dep) in
def nf : Nat → List Int → List Int
  | 0, _ => []
  | _ + 1, [] => []
  | n + 1, a :: l => (a :: l).getD (pick dep (a :: l)) 0 :: nf n ((a :: l).eraseIdx (pick dep (a :: l)))
theorem fronts_cons (a : Int) (l : List Int) : ∃ bs, fronts dep (a :: l) = 0 :: bs := by
  simp only [fronts, List.length_cons, List.range_succ_eq_map]
  rw [List.filter_cons_of_pos (by simp)]
  exact ⟨_, rfl⟩
theorem split_at {l : List Int} {i : Nat} (h : i < l.length) : l = l.take i ++ l.getD i 0 :: l.drop (i + 1) := by
  have : l.getD i 0 = l[i] := by simp [h]
  rw [this, List.getElem_cons_drop, List.take_append_drop]
theorem pick_spec (a : Int) (l : List Int) : pick dep (a :: l) ∈ fronts dep (a :: l) ∧ ∀ i ∈ fronts dep (a :: l), (a :: l).getD (pick dep (a :: l)) 0 ≤ (a :: l).getD i 0 := by
  obtain ⟨bs, e⟩ := fronts_cons (dep := dep) a l
  simp only [pick, e]
  exact minBy_spec _ bs 0
theorem mem_fronts {l : List Int} {i : Nat} : i ∈ fronts dep l ↔ i < l.length ∧ ∀ z ∈ l.take i, dep (l.getD i 0) z = false := by
  simp only [fronts, List.mem_filter, List.mem_range, List.all_eq_true, Bool.not_eq_true']
theorem fr_of {l : List Int} {x : Int} (h : Fr dep l x) : ∃ i ∈ fronts dep l, l.getD i 0 = x := by
  obtain ⟨c, d, rfl, hc⟩ := h
  have e : (c ++ x :: d).getD c.length 0 = x := by simp
  refine ⟨c.length, mem_fronts.mpr ⟨by simp, ?_⟩, e⟩
  rw [e]
  simpa using hc
theorem nf_sig (hsym : ∀ a b, dep a b = dep b a) : ∀ (n : Nat) (l l' : List Int), (∀ x ∈ l, dep x x = true) → (∀ x ∈ l', dep x x = true) → Sig dep l l' → nf dep n l = nf dep n l'
  | 0, _, _, _, _, _ => rfl
  | n + 1, [], [], _, _, _ => rfl
  | n + 1, [], b :: l', _, h', hs => by
    have := hs b b (h' b List.mem_cons_self)
    simp [pr] at this
  | n + 1, a :: l, [], h, _, hs => by
    have := hs a a (h a List.mem_cons_self)
    simp [pr] at this
  | n + 1, a :: l, b :: l', h, h', hs => by
    obtain ⟨p1, p2⟩ := pick_spec (dep := dep) a l
    obtain ⟨q1, q2⟩ := pick_spec (dep := dep) b l'
    rw [nf, nf]
    generalize hA : a :: l = A at *
    generalize hB : b :: l' = B at *
    obtain ⟨p3, p4⟩ := mem_fronts.mp p1
    obtain ⟨q3, q4⟩ := mem_fronts.mp q1
    have eA := split_at p3
    have eB := split_at q3
    have mA : A.getD (pick dep A) 0 ∈ A := by simp [p3]
    have mB : B.getD (pick dep B) 0 ∈ B := by simp [q3]
    have fA : Fr dep A (A.getD (pick dep A) 0) := ⟨_, _, eA, p4⟩
    have fB : Fr dep B (B.getD (pick dep B) 0) := ⟨_, _, eB, q4⟩
    obtain ⟨i, i1, i2⟩ := fr_of (fA.sig hs (h _ mA))
    obtain ⟨j, j1, j2⟩ := fr_of (fB.sig hs.symm (h' _ mB))
    have e : A.getD (pick dep A) 0 = B.getD (pick dep B) 0 := by
      have := q2 i i1
      have := p2 j j1
      omega
    refine congr (congrArg _ e) ?_
    rw [List.eraseIdx_eq_take_drop_succ, List.eraseIdx_eq_take_drop_succ]
    refine nf_sig hsym n _ _ ?_ ?_ ?_
    · intro x hx
      refine h x ?_
      rw [eA]
      rcases List.mem_append.mp hx with k | k
      · exact List.mem_append_left _ k
      · exact List.mem_append_right _ (List.mem_cons_of_mem _ k)
    · intro x hx
      refine h' x ?_
      rw [eB]
      rcases List.mem_append.mp hx with k | k
      · exact List.mem_append_left _ k
      · exact List.mem_append_right _ (List.mem_cons_of_mem _ k)
    · refine sig_erase (x := A.getD (pick dep A) 0) hsym (h _ mA) p4 ?_ ?_
      · rw [e]; exact q4
      · rw [← eA]
        conv => rhs; rw [e]
        rw [← eB]
        exact hs
theorem sig_left {s t : List Int} (hd : ∀ x y, dep x y = true → dep x x = true ∧ dep y y = true) (h : Sig dep s t) : Sig dep (s.filter fun z => dep z z) (t.filter fun z => dep z z) := by
  intro x y d
  have k : ∀ s : List Int, pr x y (s.filter fun z => dep z z) = pr x y s := by
    intro s
    simp only [pr, List.filter_filter]
    refine List.filter_congr fun z _ => ?_
    have := hd x y d
    by_cases h1 : z = x
    · simp [h1, this.1]
    · by_cases h2 : z = y
      · simp [h2, this.2]
      · simp [h1, h2]
  rw [k, k]
  exact h x y d
end
end Plain
namespace Plain
/-! ### plans, rows, what is common -/
def lotOf (ls : List (List Int)) (x : Int) : List Int := (ls[x.toNat]?).getD []
def com (ls : List (List Int)) (x y : Int) : List Int := (lotOf ls x).filter fun i => decide (i ∈ lotOf ls y)
def row (ls : List (List Int)) (t : List Int) (i : Int) : List Int := t.filter fun z => decide (i ∈ lotOf ls z)
def mrs (n : Nat) : List Int := (List.range n).map fun i : Nat => (i : Int)
def rows (n : Nat) (ls : List (List Int)) (t : List Int) : List (List Int) := (mrs n).map (row ls t)
def dp (ls : List (List Int)) (c : Int) (x y : Int) : Bool := decide (c ≤ (com ls x y).length)
section
variable {ls : List (List Int)} {c : Int}
theorem lotOf_nd (h : ∀ l ∈ ls, l.Pairwise (· < ·)) (x : Int) : (lotOf ls x).Nodup := by
  unfold lotOf
  cases e : ls[x.toNat]? with
  | none => simp
  | some l => exact nodup_of_inc (h l (List.mem_of_getElem? e))
theorem com_nd (h : ∀ l ∈ ls, l.Pairwise (· < ·)) (x y : Int) : (com ls x y).Nodup := (lotOf_nd h x).sublist List.filter_sublist
theorem mem_com {x y i : Int} : i ∈ com ls x y ↔ i ∈ lotOf ls x ∧ i ∈ lotOf ls y := by simp [com]
theorem com_len (h : ∀ l ∈ ls, l.Pairwise (· < ·)) (x y : Int) : (com ls x y).length = (com ls y x).length := by
  have h1 := nodup_len (com ls x y) (com ls y x) (com_nd h x y) fun i hi => mem_com.mpr (mem_com.mp hi).symm
  have h2 := nodup_len (com ls y x) (com ls x y) (com_nd h y x) fun i hi => mem_com.mpr (mem_com.mp hi).symm
  omega
theorem com_self (x : Int) : com ls x x = lotOf ls x := by simp [com]
theorem dp_sym (h : ∀ l ∈ ls, l.Pairwise (· < ·)) (x y : Int) : dp ls c x y = dp ls c y x := by simp only [dp, com_len h]
theorem dp_heard (h : ∀ l ∈ ls, l.Pairwise (· < ·)) (x y : Int) (d : dp ls c x y = true) : dp ls c x x = true ∧ dp ls c y y = true := by
  have h1 : (com ls x y).length ≤ (lotOf ls x).length := List.length_filter_le ..
  have h2 : (com ls y x).length ≤ (lotOf ls y).length := List.length_filter_le ..
  rw [com_len h y x] at h2
  simp only [dp, decide_eq_true_eq, com_self] at d ⊢
  omega
theorem pr_row {x y i : Int} (t : List Int) (hx : i ∈ lotOf ls x) (hy : i ∈ lotOf ls y) : pr x y (row ls t i) = pr x y t := by
  simp only [pr, row, List.filter_filter]
  refine List.filter_congr fun z _ => ?_
  by_cases h1 : z = x
  · simp [h1, hx]
  · by_cases h2 : z = y
    · simp [h2, hy]
    · simp [h1, h2]
/-! ### from joined to alike -/
def isOne (p : List Int × List Int) : Bool := decide (p.1 ≠ p.2) && decide (p.2 <+: p.1)
def isOther (p : List Int × List Int) : Bool := decide (p.1 ≠ p.2) && (!decide (p.2 <+: p.1) && decide (p.1 <+: p.2))
def isRest (p : List Int × List Int) : Bool := decide (p.1 ≠ p.2) && (!decide (p.2 <+: p.1) && !decide (p.1 <+: p.2))
theorem count_ge {n : Nat} (C : List Int) (hn : C.Nodup) (hm : ∀ i ∈ C, 0 ≤ i ∧ i < n) (P : Int → Bool) (hP : ∀ i ∈ C, P i = true) : C.length ≤ (mrs n).countP P := by
  rw [List.countP_eq_length_filter]
  refine nodup_len _ _ hn fun i hi => List.mem_filter.mpr ⟨?_, hP i hi⟩
  obtain ⟨k, rfl⟩ := Int.eq_ofNat_of_zero_le (hm i hi).1
  have := (hm _ hi).2
  simp only [mrs, List.mem_map, List.mem_range]
  exact ⟨k, by omega, rfl⟩
theorem countP_or {α : Type} (P Q : α → Bool) : ∀ l : List α, l.countP (fun a => P a || Q a) ≤ l.countP P + l.countP Q
  | [] => by simp
  | a :: l => by
    have := countP_or P Q l
    simp only [List.countP_cons]
    cases P a <;> cases Q a <;> simp <;> omega
theorem joined_sum {n : Nat} (h : ∀ l ∈ ls, l.Pairwise (· < ·)) (hm : ∀ l ∈ ls, ∀ i ∈ l, 0 ≤ i ∧ i < n) (s t : List Int) (x y : Int) (hne : pr x y s ≠ pr x y t) :
    let ps := (rows n ls s).zip (rows n ls t)
    (com ls x y).length ≤ ps.countP isOne + ps.countP isRest ∨ (com ls x y).length ≤ ps.countP isOther + ps.countP isRest := by
  have hin : ∀ i ∈ com ls x y, 0 ≤ i ∧ i < n := by
    intro i hi
    have := (mem_com.mp hi).1
    unfold lotOf at this
    cases e : ls[x.toNat]? with
    | none => simp [e] at this
    | some l => exact hm l (List.mem_of_getElem? e) i (by simpa [e] using this)
  have ez : (rows n ls s).zip (rows n ls t) = (mrs n).map fun i => (row ls s i, row ls t i) := by
    simp [rows, List.zip_map']
  have hpre : ∀ i ∈ com ls x y, ∀ u v : List Int, row ls u i <+: row ls v i → pr x y u <+: pr x y v := by
    intro i hi u v hp
    obtain ⟨h1, h2⟩ := mem_com.mp hi
    rw [← pr_row u h1 h2, ← pr_row v h1 h2]
    exact hp.filter _
  have hneq : ∀ i ∈ com ls x y, row ls s i ≠ row ls t i := by
    intro i hi e
    obtain ⟨h1, h2⟩ := mem_com.mp hi
    apply hne
    rw [← pr_row s h1 h2, ← pr_row t h1 h2, e]
  simp only [ez, List.countP_map]
  by_cases hst : pr x y s <+: pr x y t
  · right
    have hts : ¬ pr x y t <+: pr x y s := by
      intro hts
      exact hne (hst.eq_of_length (Nat.le_antisymm hst.length_le hts.length_le))
    refine Nat.le_trans (count_ge _ (com_nd h x y) hin (fun i => isOther (row ls s i, row ls t i) || isRest (row ls s i, row ls t i)) ?_) (countP_or ..)
    intro i hi
    have h1 := hneq i hi
    have h2 : ¬ row ls t i <+: row ls s i := fun k => hts (hpre i hi _ _ k)
    simp only [isOther, isRest, h1, h2]
    cases decide (row ls s i <+: row ls t i) <;> simp [h1]
  · left
    refine Nat.le_trans (count_ge _ (com_nd h x y) hin (fun i => isOne (row ls s i, row ls t i) || isRest (row ls s i, row ls t i)) ?_) (countP_or ..)
    intro i hi
    have h1 := hneq i hi
    have h2 : ¬ row ls s i <+: row ls t i := fun k => hst (hpre i hi _ _ k)
    simp only [isOne, isRest, h2]
    cases decide (row ls t i <+: row ls s i) <;> simp [h1]
/-! ### steps -/
theorem sig_drop {p q : List Int} {x : Int} (h : ∀ l ∈ ls, l.Pairwise (· < ·)) (hx : ((lotOf ls x).length : Int) < c) : Sig (dp ls c) (p ++ x :: q) (p ++ q) := by
  intro u v d
  obtain ⟨d1, d2⟩ := dp_heard h u v d
  simp only [dp, com_self, decide_eq_true_eq] at d1 d2
  have h1 : ¬ (x = u ∨ x = v) := by
    rintro (rfl | rfl) <;> omega
  simp only [pr, List.filter_append]
  rw [List.filter_cons_of_neg (by simpa using h1)]
theorem sig_swap {p q : List Int} {x y : Int} (h : ∀ l ∈ ls, l.Pairwise (· < ·)) (hne : x ≠ y) (hx : ((com ls x y).length : Int) < c) : Sig (dp ls c) (p ++ x :: y :: q) (p ++ y :: x :: q) := by
  intro u v d
  simp only [dp, decide_eq_true_eq] at d
  simp only [pr, List.filter_append]
  congr 1
  by_cases hxx : x = u ∨ x = v
  · by_cases hyy : y = u ∨ y = v
    · exfalso
      have := com_len h x y
      rcases hxx with rfl | rfl <;> rcases hyy with rfl | rfl
      · exact hne rfl
      · omega
      · omega
      · exact hne rfl
    · rw [List.filter_cons_of_pos (by simpa using hxx), List.filter_cons_of_neg (by simpa using hyy), List.filter_cons_of_neg (by simpa using hyy), List.filter_cons_of_pos (by simpa using hxx)]
  · rw [List.filter_cons_of_neg (by simpa using hxx)]
    by_cases hyy : y = u ∨ y = v
    · rw [List.filter_cons_of_pos (by simpa using hyy), List.filter_cons_of_pos (by simpa using hyy), List.filter_cons_of_neg (by simpa using hxx)]
    · rw [List.filter_cons_of_neg (by simpa using hyy), List.filter_cons_of_neg (by simpa using hyy), List.filter_cons_of_neg (by simpa using hxx)]
theorem mrs_nd (n : Nat) : (mrs n).Nodup := by
  unfold mrs
  refine List.Pairwise.map _ (fun a b (h : a ≠ b) => ?_) List.nodup_range
  intro e
  have e' : (a : Int) = b := e
  omega
def dif (p : List Int × List Int) : Bool := decide (p.1 ≠ p.2)
theorem dif_le {n : Nat} (C : List Int) (s t : List Int) (hC : ∀ i, row ls s i ≠ row ls t i → i ∈ C) : ((rows n ls s).zip (rows n ls t)).countP dif ≤ C.length := by
  have ez : (rows n ls s).zip (rows n ls t) = (mrs n).map fun i => (row ls s i, row ls t i) := by
    simp [rows, List.zip_map']
  rw [ez, List.countP_map, List.countP_eq_length_filter]
  refine nodup_len _ _ ((mrs_nd n).sublist List.filter_sublist) fun i hi => hC i ?_
  have := (List.mem_filter.mp hi).2
  simpa [dif] using this
theorem dif_drop {n : Nat} {p q : List Int} {x : Int} : ((rows n ls (p ++ x :: q)).zip (rows n ls (p ++ q))).countP dif ≤ (lotOf ls x).length := by
  refine dif_le _ _ _ fun i hi => ?_
  apply Classical.byContradiction
  intro hn
  apply hi
  simp only [row, List.filter_append]
  rw [List.filter_cons_of_neg (by simpa using hn)]
theorem dif_swap {n : Nat} {p q : List Int} {x y : Int} : ((rows n ls (p ++ x :: y :: q)).zip (rows n ls (p ++ y :: x :: q))).countP dif ≤ (com ls x y).length := by
  refine dif_le _ _ _ fun i hi => mem_com.mpr ?_
  apply Classical.byContradiction
  intro hn
  apply hi
  simp only [row, List.filter_append]
  congr 1
  by_cases hx : i ∈ lotOf ls x
  · have hy : i ∉ lotOf ls y := fun k => hn ⟨hx, k⟩
    rw [List.filter_cons_of_pos (by simpa using hx), List.filter_cons_of_neg (by simpa using hy), List.filter_cons_of_neg (by simpa using hy), List.filter_cons_of_pos (by simpa using hx)]
  · rw [List.filter_cons_of_neg (by simpa using hx)]
    by_cases hy : i ∈ lotOf ls y
    · rw [List.filter_cons_of_pos (by simpa using hy), List.filter_cons_of_pos (by simpa using hy), List.filter_cons_of_neg (by simpa using hx)]
    · rw [List.filter_cons_of_neg (by simpa using hy), List.filter_cons_of_neg (by simpa using hy), List.filter_cons_of_neg (by simpa using hx)]
end
/-! ### the shared post -/
abbrev T3 := List Int × List Int × List Int
inductive Sh (l : Nat) : List T3 → Nat → Prop
  | nil : Sh l [] 0
  | same {ts n F} : Sh l ts n → Sh l (ts ++ [(F, F, F)]) n
  | diff {ts n F S f} : Sh l ts n → F ≠ S → (n < l → f = S) → (l ≤ n → n < 2 * l → f = F) → (2 * l ≤ n → f <+: F ∧ f <+: S) → Sh l (ts ++ [(F, S, f)]) (n + 1)
def w1 (t : T3) : Bool := decide (t.2.2 ≠ t.1)
def s1 (t : T3) : Bool := decide (t.2.2 ≠ t.1) && decide (t.2.2 <+: t.1)
def w2 (t : T3) : Bool := decide (t.2.2 ≠ t.2.1)
def s2 (t : T3) : Bool := decide (t.2.2 ≠ t.2.1) && decide (t.2.2 <+: t.2.1)
def d3 (t : T3) : Bool := decide (t.1 ≠ t.2.1)
theorem Sh.sum {l : Nat} {ts : List T3} {n : Nat} (h : Sh l ts n) : ts.countP d3 = n ∧
    ts.countP w1 ≤ l + ts.countP s1 ∧ ts.countP w1 ≤ min l n + (n - 2 * l) ∧ ts.countP w2 ≤ l + ts.countP s2 ∧ ts.countP w2 ≤ min l (n - l) + (n - 2 * l) ∧
    ts.countP w1 ≤ min l n + ts.countP s1 ∧ ts.countP w2 ≤ min l (n - l) + ts.countP s2 := by
  induction h with
  | nil => simp
  | same h ih =>
    obtain ⟨i1, i2, i3, i4, i5, i6, i7⟩ := ih
    simp only [List.countP_append, List.countP_cons, List.countP_nil]
    simp only [show ∀ F, d3 (F, F, F) = false from fun F => by simp [d3], show ∀ F, w1 (F, F, F) = false from fun F => by simp [w1], show ∀ F, w2 (F, F, F) = false from fun F => by simp [w2], show ∀ F, s1 (F, F, F) = false from fun F => by simp [s1], show ∀ F, s2 (F, F, F) = false from fun F => by simp [s2]]
    simp
    omega
  | @diff ts n F S f h hne ha hb hc ih =>
    obtain ⟨i1, i2, i3, i4, i5, i6, i7⟩ := ih
    simp only [List.countP_append, List.countP_cons, List.countP_nil]
    have e3 : d3 (F, S, f) = true := by simp [d3, hne]
    rw [e3]
    rcases Nat.lt_or_ge n l with k | k
    · have := ha k
      subst this
      have a1 : w1 (F, f, f) = true := by simp [w1, Ne.symm hne]
      have a2 : w2 (F, f, f) = false := by simp [w2]
      have a3 : s2 (F, f, f) = false := by simp [s2]
      rw [a1, a2, a3]
      cases s1 (F, f, f) <;> simp <;> omega
    · rcases Nat.lt_or_ge n (2 * l) with k2 | k2
      · have := hb k k2
        subst this
        have a1 : w2 (f, S, f) = true := by simp [w2, hne]
        have a2 : w1 (f, S, f) = false := by simp [w1]
        have a3 : s1 (f, S, f) = false := by simp [s1]
        rw [a1, a2, a3]
        cases s2 (f, S, f) <;> simp <;> omega
      · obtain ⟨p1, p2⟩ := hc k2
        have a1 : w1 (F, S, f) = s1 (F, S, f) := by simp [w1, s1, p1]
        have a2 : w2 (F, S, f) = s2 (F, S, f) := by simp [w2, s2, p2]
        rw [a1, a2]
        cases s1 (F, S, f) <;> cases s2 (F, S, f) <;> simp <;> omega
end Plain


set_option Elab.async false
set_option linter.all false
set_option maxRecDepth 100000
set_option maxHeartbeats 4000000
namespace LawT
open PySem L2 Dl Plain
theorem is_number_eq (v lo hi : Int) (w : W) : fnD 3 dn_is_number [.int v, .int lo, .int hi] w = .ok (.bl (decide (lo ≤ v) && decide (v ≤ hi))) w := by
  refine fnD_of (w' := ⟨args 3 [.int v, .int lo, .int hi], w.st⟩) ?_ rfl
  simp [dn_is_number, ltD, leD]
  by_cases h : lo ≤ v <;> simp [h]
theorem need_number_eq (v lo hi : Int) (w : W) (h : lo ≤ v ∧ v ≤ hi) : fnD 3 dn_need_number [.int v, .int lo, .int hi] w = .ok .non w := by
  refine fnD_nx (w' := ⟨args 3 [.int v, .int lo, .int hi], w.st⟩) ?_ rfl
  simp [dn_need_number, is_number_eq, h]
theorem is_text_eq (L : Int) (t : List Int) (w : W) (h : t.length ≤ 40) : fnD 3 dn_is_text [.int L, tu t] w = .ok (.bl (t.all fun x => decide (0 ≤ x) && decide (x ≤ L - 1))) w := by
  refine fnD_of (w' := ⟨args 3 [.int L, tu t], w.st⟩) ?_ rfl
  have hg : ¬ (40 : Int) < t.length := by omega
  simp only [dn_is_text, sSeq_u, sIf_u, sRet_u, bnd_ap]
  simp [tu, hg, gtD]
  rw [eAll_tt (l := t) (c := D.int) (q := fun x => decide (0 ≤ x) && decide (x ≤ L - 1)) (w := ⟨args 3 [.int L, tu t], w.st⟩)]
  · rfl
  · simp [tu]
  · rfl
  · intro x _
    exact ⟨⟨[some (false, .int L), some (false, tu t), some (false, .int x)], w.st⟩, rfl, rfl, by simp [is_number_eq]⟩
theorem need_text_eq (L : Int) (t : List Int) (w : W) (h : t.length ≤ 40) (ht : ∀ x ∈ t, 0 ≤ x ∧ x ≤ L - 1) : fnD 2 dn_need_text [.int L, tu t] w = .ok .non w := by
  refine fnD_nx (w' := ⟨args 2 [.int L, tu t], w.st⟩) ?_ rfl
  have e : (t.all fun x => decide (0 ≤ x) && decide (x ≤ L - 1)) = true := by simpa using ht
  simp [dn_need_text, is_text_eq, h, e]
theorem r1D_nat {n : Nat} (h : n ≤ 1000000) : r1D [.int (n : Int)] = some ((mrs n).map D.int) := by
  have e : -(2 ^ 62 : Int) ≤ n ∧ (n : Int) < 2 ^ 62 := by constructor <;> omega
  rw [r1D_u0, if_pos e, rgL_eq, Int.toNat_natCast]
  simp [mrs]
theorem iRg_eq {f : List D → Option (List D)} {mm : M (List D)} {w0 w : W} {ds l : List D} (h : mm w0 = .ok ds w) (hf : f ds = some l) : iRg f mm w0 = .ok l w := by
  rw [iRg_u, bnd_ap, h, andThen_ok, hf]
  rfl
theorem sSeq_nx {a b : M Fl} {w w1 : W} {r : R Fl} (h : a w = .ok .nx w1) (h2 : b w1 = r) : sSeq a b w = r := by
  rw [sSeq_u, bnd_ap, h, andThen_ok]
  exact h2
theorem sSeq_rt {a b : M Fl} {w w1 : W} {d : D} (h : a w = .ok (.rt d) w1) : sSeq a b w = .ok (.rt d) w1 := by
  rw [sSeq_u, bnd_ap, h, andThen_ok]
  rfl
theorem sFor_ap {mi : M (List D)} {as : D → M Unit} {mb : M Fl} {w0 w : W} {l : List D} {r : R Fl} (h : mi w0 = .ok l w) (h2 : forL as mb l w = r) : sFor mi as mb w0 = r := by
  rw [sFor_u, bnd_ap, h, andThen_ok]
  exact h2
theorem sIf_tt {c : M Bool} {a b : M Fl} {w w1 : W} {r : R Fl} (h : c w = .ok true w1) (h2 : a w1 = r) : sIf c a b w = r := by
  rw [sIf_u, bnd_ap, h, andThen_ok, if_pos rfl]
  exact h2
theorem sIf_ff {c : M Bool} {a b : M Fl} {w w1 : W} {r : R Fl} (h : c w = .ok false w1) (h2 : b w1 = r) : sIf c a b w = r := by
  rw [sIf_u, bnd_ap, h, andThen_ok, if_neg Bool.false_ne_true]
  exact h2
theorem bnd_of {α β : Type} {mm : M α} {f : α → M β} {w w1 : W} {a : α} {r : R β} (h : mm w = .ok a w1) (h2 : f a w1 = r) : M.bnd mm f w = r := by
  rw [bnd_ap, h, andThen_ok]
  exact h2
theorem lC_of {mm : M D} {l : M (List D)} {w w1 w2 : W} {d : D} {ds : List D} (h : mm w = .ok d w1) (h2 : l w1 = .ok ds w2) : lC mm l w = .ok (d :: ds) w2 := by
  rw [lC_u, bnd_ap, h, andThen_ok, bnd_ap, h2, andThen_ok]
  rfl
theorem lN_of {w : W} : lN w = .ok [] w := rfl
theorem sE_of {mm : M D} {w w1 : W} {d : D} (h : mm w = .ok d w1) : sE mm w = .ok .nx w1 := by
  rw [sE_u, bnd_ap, h, andThen_ok]
  rfl
theorem sRet_of {mm : M D} {w w1 : W} {d : D} (h : mm w = .ok d w1) : sRet mm w = .ok (.rt d) w1 := by
  rw [sRet_u, bnd_ap, h, andThen_ok]
  rfl
theorem eB_of {f : D → D → M D} {ma mb : M D} {w w1 w2 : W} {x y : D} {r : R D} (h : ma w = .ok x w1) (h2 : mb w1 = .ok y w2) (h3 : f x y w2 = r) : eB f ma mb w = r := by
  rw [eB_u, bnd_ap, h, andThen_ok, bnd_ap, h2, andThen_ok]
  exact h3
theorem tT_of {mm : M D} {w w1 : W} {b : Bool} (h : mm w = .ok (.bl b) w1) : tT mm w = .ok b w1 := by
  rw [tT_u, bnd_ap, h, andThen_ok]
  rfl
theorem tNo_of {mm : M Bool} {w w1 : W} {b : Bool} (h : mm w = .ok b w1) : tNo mm w = .ok (!b) w1 := by
  rw [tNo_u, bnd_ap, h, andThen_ok]
  rfl
theorem tAn_tt {mm nn : M Bool} {w w1 : W} {r : R Bool} (h : mm w = .ok true w1) (h2 : nn w1 = r) : tAn mm nn w = r := by
  rw [tAn_u, bnd_ap, h, andThen_ok, if_pos rfl]
  exact h2
theorem tAn_ff {mm nn : M Bool} {w w1 : W} (h : mm w = .ok false w1) : tAn mm nn w = .ok false w1 := by
  rw [tAn_u, bnd_ap, h, andThen_ok, if_neg Bool.false_ne_true]
  rfl
theorem tOr_ff {mm nn : M Bool} {w w1 : W} {r : R Bool} (h : mm w = .ok false w1) (h2 : nn w1 = r) : tOr' mm nn w = r := by
  rw [tOrP_u, bnd_ap, h, andThen_ok, if_neg Bool.false_ne_true]
  exact h2
theorem eAn_tt {mm nn : M D} {w w1 : W} {r : R D} (h : mm w = .ok (.bl true) w1) (h2 : nn w1 = r) : eAn mm nn w = r := by
  rw [eAn_u, bnd_ap, h, andThen_ok, truD_u1, bnd_ap, ret_ap, andThen_ok, if_pos rfl]
  exact h2
theorem sAsg_of {as : D → M Unit} {mm : M D} {w w1 w2 : W} {d : D} (h : mm w = .ok d w1) (h2 : as d w1 = .ok () w2) : sAsg as mm w = .ok .nx w2 := by
  rw [sAsg_u, bnd_ap, h, andThen_ok, bnd_ap, h2, andThen_ok]
  rfl
theorem sSet_of {i : Nat} {mm : M D} {w w1 w2 : W} {d : D} (h : mm w = .ok d w1) (h2 : setF i d w1 = .ok () w2) : sSet i mm w = .ok .nx w2 := by
  rw [sSet_u, bnd_ap, h, andThen_ok, bnd_ap, h2, andThen_ok]
  rfl
/-! ### plans -/
/-- lots -/
abbrev tus (ls : List (List Int)) : D := .tup (ls.map tu)
abbrev pD (m : Nat) (ls : List (List Int)) : D := .tup [.int (m : Int), tus ls]
structure PlanOk (m : Nat) (ls : List (List Int)) : Prop where
  m1 : 1 ≤ m
  m7 : m ≤ 7
  l1 : 1 ≤ ls.length
  l5 : ls.length ≤ 5
  rng : ∀ l ∈ ls, ∀ x ∈ l, 0 ≤ x ∧ x < m
  inc : ∀ l ∈ ls, l.Pairwise (· < ·)
theorem atI_lot {ls : List (List Int)} {x : Int} (h0 : 0 ≤ x) (h1 : x < ls.length) : atI (ls.map tu) x = some (tu (lotOf ls x)) := by
  obtain ⟨n, rfl⟩ := Int.eq_ofNat_of_zero_le h0
  have h : n < ls.length := by omega
  rw [atI_map, atI_ofNat]
  simp [lotOf, h]
theorem lotOf_mem {ls : List (List Int)} {x : Int} (h0 : 0 ≤ x) (h1 : x < ls.length) : lotOf ls x ∈ ls := by
  have h : x.toNat < ls.length := by omega
  simp [lotOf, h]
theorem zip_inc : ∀ v : List Int, v.Pairwise (· < ·) → ∀ p ∈ v.zip v.tail, p.1 < p.2
  | [], _, p, h => by simp at h
  | [a], _, p, h => by simp at h
  | a :: b :: v, h, p, hp => by
    simp only [List.tail_cons, List.zip_cons_cons, List.mem_cons] at hp
    rcases hp with rfl | hp
    · exact (List.pairwise_cons.mp h).1 b List.mem_cons_self
    · exact zip_inc (b :: v) (List.pairwise_cons.mp h).2 p hp
theorem is_lot_eq (m : Int) (v : List Int) (w : W) (hv : ∀ x ∈ v, 0 ≤ x ∧ x ≤ m - 1) (hs : v.Pairwise (· < ·)) : fnD 4 dn_is_lot [.int m, tu v] w = .ok (.bl true) w := by
  refine fnD_of (w' := ⟨args 4 [.int m, tu v], w.st⟩) ?_ rfl
  have e : (v.all fun x => decide (0 ≤ x) && decide (x ≤ m - 1)) = true := by simpa using hv
  simp [dn_is_lot]
  rw [eAll_tt (l := v) (c := D.int) (q := fun x => decide (0 ≤ x) && decide (x ≤ m - 1)) (w := ⟨args 4 [.int m, tu v], w.st⟩)]
  · simp [e, tu]
    rw [eAll_tt (l := v.zip v.tail) (c := fun p => .tup [.int p.1, .int p.2]) (q := fun p => decide (p.1 < p.2)) (w := ⟨args 4 [.int m, tu v], w.st⟩)]
    · have e2 : ((v.zip v.tail).all fun p => decide (p.1 < p.2)) = true := by simpa using fun a b h => zip_inc v hs (a, b) h
      simp [e2, tu]
    · simp [← List.map_tail, zipP_map]
    · rfl
    · intro x _
      exact ⟨⟨[some (false, .int m), some (false, tu v), some (false, .int x.1), some (false, .int x.2)], w.st⟩, rfl, rfl, by simp [ltD]⟩
  · simp [tu]
  · rfl
  · intro x _
    exact ⟨⟨[some (false, .int m), some (false, tu v), some (false, .int x), none], w.st⟩, rfl, rfl, by simp [is_number_eq]⟩
theorem PlanOk.len {m : Nat} {ls : List (List Int)} (h : PlanOk m ls) : ∀ l ∈ ls, l.length ≤ 7 := by
  intro l hl
  have h1 := nodup_len l (mrs m) (nodup_of_inc (h.inc l hl)) fun x hx => by
    obtain ⟨h0, h1⟩ := h.rng l hl x hx
    obtain ⟨k, rfl⟩ := Int.eq_ofNat_of_zero_le h0
    simp only [mrs, List.mem_map, List.mem_range]
    exact ⟨k, by omega, rfl⟩
  have := h.m7
  simp [mrs] at h1
  omega
theorem sizeLine_ge : 1000000 ≤ sizeLine := by decide
theorem sL_of {n : Nat} (h : n ≤ 1000000) : n ≤ sizeLine := Nat.le_trans h sizeLine_ge
@[simp] theorem sL0 : 0 ≤ sizeLine := sL_of (by decide)
@[simp] theorem sL1 : 1 ≤ sizeLine := sL_of (by decide)
@[simp] theorem sL2 : 2 ≤ sizeLine := sL_of (by decide)
@[simp] theorem sL3 : 3 ≤ sizeLine := sL_of (by decide)
@[simp] theorem sL4 : 4 ≤ sizeLine := sL_of (by decide)
theorem need_plan_eq {m : Nat} {ls : List (List Int)} (h : PlanOk m ls) (w : W) : fnD 4 dn_need_plan [pD m ls] w = .ok .non w := by
  have h1 := h.m1
  have h2 := h.m7
  have h3 := h.l1
  have h4 := h.l5
  refine fnD_nx (w' := ⟨[some (false, pD m ls), some (false, .int m), some (false, tus ls), none], w.st⟩) ?_ rfl
  have e1 : (1 : Int) ≤ m := by omega
  have e2 : (m : Int) ≤ 7 := by omega
  have e3 : (1 : Int) ≤ ls.length := by omega
  have e4 : (ls.length : Int) ≤ 5 := by omega
  simp [dn_need_plan, eqB_int, shp, is_number_eq, e1, e2, leD, e3, e4]
  rw [eAll_tt (l := ls) (c := tu) (q := fun _ => true) (w := ⟨[some (false, pD m ls), some (false, .int m), some (false, tus ls), none], w.st⟩)]
  · simp
  · simp
  · rfl
  · intro x hx
    exact ⟨⟨[some (false, pD m ls), some (false, .int m), some (false, tus ls), some (false, tu x)], w.st⟩, rfl, rfl, by simp [is_lot_eq m x _ (fun y hy => ⟨(h.rng x hx y hy).1, by have := (h.rng x hx y hy).2; omega⟩) (h.inc x hx)]⟩
theorem need_faults_eq (l k : Int) (w : W) (h : 0 ≤ l ∧ l ≤ 7) (h' : 0 ≤ k ∧ k ≤ 7) : fnD 2 dn_need_faults [.int l, .int k] w = .ok .non w := by
  refine fnD_nx (w' := ⟨args 2 [.int l, .int k], w.st⟩) ?_ rfl
  simp [dn_need_faults, need_number_eq, h, h']
theorem need_count_eq (c : Int) (w : W) (h : 1 ≤ c ∧ c ≤ 22) : fnD 1 dn_need_count [.int c] w = .ok .non w := by
  refine fnD_nx (w' := ⟨args 1 [.int c], w.st⟩) ?_ rfl
  simp [dn_need_count, need_number_eq, h]
structure TextOk (ls : List (List Int)) (t : List Int) : Prop where
  len : t.length ≤ 40
  rng : ∀ x ∈ t, 0 ≤ x ∧ x < ls.length
section
variable {m : Nat} {ls : List (List Int)} (h : PlanOk m ls)
include h
theorem row_for_eq {t : List Int} (ht : TextOk ls t) (i : Int) (w : W) : fnD 4 dn_row_for [pD m ls, tu t, .int i] w = .ok (tu (row ls t i)) w := by
  refine fnD_of (w' := ⟨args 4 [pD m ls, tu t, .int i], w.st⟩) ?_ rfl
  have := ht.len
  have := sizeLine_ge
  simp only [dn_row_for, sRet_u, bnd_ap]
  rw [eLc_eq (l := t) (c := D.int) (p := fun z => decide (i ∈ lotOf ls z)) (g := D.int) (w := ⟨args 4 [pD m ls, tu t, .int i], w.st⟩)]
  · simp [row]
  · simp
  · omega
  · rfl
  · intro x hx
    obtain ⟨x0, x1⟩ := ht.rng x hx
    refine ⟨⟨[some (false, pD m ls), some (false, tu t), some (false, .int i), some (false, .int x)], w.st⟩, rfl, rfl, ?_, by simp⟩
    have e1 : atI [D.int (m : Int), tus ls] 1 = some (tus ls) := rfl
    simp [atI_lot x0 x1, inB_int, shp, e1]
end
end LawT


set_option Elab.async false
set_option linter.all false
set_option maxRecDepth 100000
set_option maxHeartbeats 4000000
namespace LawT
open PySem L2 Dl Plain
section
variable {m : Nat} {ls : List (List Int)} (h : PlanOk m ls)
include h
theorem rows_of_eq {t : List Int} (ht : TextOk ls t) (w : W) : fnD 3 dn_rows_of [pD m ls, tu t] w = .ok (tus (rows m ls t)) w := by
  refine fnD_of (w' := ⟨args 3 [pD m ls, tu t], w.st⟩) ?_ rfl
  have h7 := h.m7
  have := sizeLine_ge
  have e0 : atI [D.int (m : Int), tus ls] 0 = some (.int m) := rfl
  simp only [dn_rows_of, sRet_u, bnd_ap]
  rw [eLc_eq (l := mrs m) (c := D.int) (p := fun _ => true) (g := fun i => tu (row ls t i)) (w := ⟨args 3 [pD m ls, tu t], w.st⟩)]
  · rw [List.filter_eq_self.mpr fun _ _ => rfl]
    simp [rows, Function.comp_def]
  · exact iRg_eq (by simp [e0]) (r1D_nat (by omega))
  · have e : (mrs m).length = m := by simp [mrs]
    rw [e]
    exact Nat.le_trans (Nat.le_trans h7 (by decide)) this
  · rfl
  · intro x hx
    exact ⟨⟨[some (false, pD m ls), some (false, tu t), some (false, .int x)], w.st⟩, rfl, rfl, rfl, fun _ => by simp [row_for_eq h ht]⟩
theorem common_of_eq {x y : Int} (hx : 0 ≤ x ∧ x < ls.length) (hy : 0 ≤ y ∧ y < ls.length) (w : W) : fnD 4 dn_common_of [pD m ls, .int x, .int y] w = .ok (tu (com ls x y)) w := by
  refine fnD_of (w' := ⟨args 4 [pD m ls, .int x, .int y], w.st⟩) ?_ rfl
  have := sizeLine_ge
  have e1 : atI [D.int (m : Int), tus ls] 1 = some (tus ls) := rfl
  simp only [dn_common_of, sRet_u, bnd_ap]
  rw [eLc_eq (l := lotOf ls x) (c := D.int) (p := fun i => decide (i ∈ lotOf ls y)) (g := D.int) (w := ⟨args 4 [pD m ls, .int x, .int y], w.st⟩)]
  · simp [com]
  · simp [e1, atI_lot hx.1 hx.2]
  · have := h.len _ (lotOf_mem hx.1 hx.2)
    omega
  · rfl
  · intro i hi
    refine ⟨⟨[some (false, pD m ls), some (false, .int x), some (false, .int y), some (false, .int i)], w.st⟩, rfl, rfl, ?_, by simp⟩
    simp [atI_lot hy.1 hy.2, inB_int, shp, e1]
def RowOk (ls : List (List Int)) (i : Int) (r : List Int) : Prop := TextOk ls r ∧ ∀ z ∈ r, i ∈ lotOf ls z
theorem is_row_eq {i : Int} {r : List Int} (hr : RowOk ls i r) (w : W) : fnD 4 dn_is_row [pD m ls, .int i, tu r] w = .ok (.bl true) w := by
  refine fnD_of (w' := ⟨args 4 [pD m ls, .int i, tu r], w.st⟩) ?_ rfl
  have e1 : atI [D.int (m : Int), tus ls] 1 = some (tus ls) := rfl
  have e : (r.all fun x => decide (0 ≤ x) && decide (x ≤ (ls.length : Int) - 1)) = true := by
    simp only [List.all_eq_true, Bool.and_eq_true, decide_eq_true_eq]
    intro x hx
    have := hr.1.rng x hx
    omega
  simp [dn_is_row, e1, is_text_eq _ _ _ hr.1.len, e]
  rw [eAll_tt (l := r) (c := D.int) (q := fun x => true) (w := ⟨args 4 [pD m ls, .int i, tu r], w.st⟩)]
  · simp [tu]
  · simp
  · rfl
  · intro x hx
    obtain ⟨x0, x1⟩ := hr.1.rng x hx
    exact ⟨⟨[some (false, pD m ls), some (false, .int i), some (false, tu r), some (false, .int x)], w.st⟩, rfl, rfl, by simp [e1, atI_lot x0 x1, inB_int, shp, hr.2 x hx]⟩
theorem need_post_eq {fs : List (List Int)} (hl : fs.length = m) (hf : ∀ (i : Nat) f, fs[i]? = some f → RowOk ls i f) (w : W) : fnD 4 dn_need_post [pD m ls, tus fs] w = .ok .non w := by
  have e0 : atI [D.int (m : Int), tus ls] 0 = some (.int m) := rfl
  obtain ⟨w', h1, h2⟩ := for_map (as := tgT (tgC (setF 2) (tgC (setF 3) tgN)) 2) (c := fun p : List Int × Nat => .tup [.int (p.2 : Nat), tu p.1])
    (mb := sIf (tNo (tT (M.bnd (lC (eV 0) (lC (eV 2) (lC (eV 3) lN))) (fnD 4 dn_is_row)))) M.no sPass)
    (fun l v => (∀ p ∈ l, RowOk ls p.2 p.1) ∧ ∃ a b, v = ⟨[some (false, pD m ls), some (false, tus fs), a, b], w.st⟩)
    (fun d ds v hi => by
      obtain ⟨h1, a, b, rfl⟩ := hi
      refine ⟨⟨[some (false, pD m ls), some (false, tus fs), some (false, .int (d.2 : Nat)), some (false, tu d.1)], w.st⟩, .nx, ⟨[some (false, pD m ls), some (false, tus fs), some (false, .int (d.2 : Nat)), some (false, tu d.1)], w.st⟩, by simp, by simp [is_row_eq h (h1 d List.mem_cons_self)], .inl rfl, fun p hp => h1 p (List.mem_cons_of_mem _ hp), _, _, rfl⟩)
    (fs.zipIdx 0) ⟨args 4 [pD m ls, tus fs], w.st⟩ ⟨fun p hp => hf p.2 p.1 (List.mk_mem_zipIdx_iff_getElem?.mp hp), _, _, rfl⟩
  obtain ⟨_, a, b, rfl⟩ := h2
  refine fnD_nx (w' := ⟨[some (false, pD m ls), some (false, tus fs), a, b], w.st⟩) (sSeq_nx (w1 := ⟨args 4 [pD m ls, tus fs], w.st⟩) ?_ (sFor_ap (w := ⟨args 4 [pD m ls, tus fs], w.st⟩) (iRg_eq (by simp; rfl) (by simp [numb_map])) h1)) rfl
  simp [e0, hl, eqB_int, shp]
/-- who is wrong, and whose row is a part of what they had -/
def cW (ts : List (List Int × List Int)) : Nat := ts.countP fun p => decide (p.2 ≠ p.1)
def cS (ts : List (List Int × List Int)) : Nat := ts.countP fun p => decide (p.2 ≠ p.1) && decide (p.2 <+: p.1)
omit h in
theorem cW_cons (r f : List Int) (ts : List (List Int × List Int)) : cW ((r, f) :: ts) = cW ts + (if f = r then 0 else 1) := by
  simp only [cW, List.countP_cons]
  by_cases hq : f = r <;> simp [hq]
omit h in
theorem cS_cons (r f : List Int) (ts : List (List Int × List Int)) : cS ((r, f) :: ts) = cS ts + (if f = r then 0 else if f <+: r then 1 else 0) := by
  simp only [cS, List.countP_cons]
  by_cases hq : f = r <;> simp [hq]
theorem comes_of_eq {t : List Int} (ht : TextOk ls t) (l k : Int) (ts : List (List Int × List Int)) (hr : rows m ls t = ts.map (·.1)) (w : W) :
    fnD 9 dn_comes_of [pD m ls, .int l, .int k, tu t, tus (ts.map (·.2))] w = .ok (.bl (decide ((cW ts : Int) - (if (cS ts : Int) < k then (cS ts : Int) else k) ≤ l))) w := by
  let s0 : List (Option (Bool × D)) := [some (false, pD m ls), some (false, .int l), some (false, .int k), some (false, tu t), some (false, tus (ts.map (·.2)))]
  obtain ⟨w', h1, h2⟩ := for_map (as := tgT (tgC (setF 7) (tgC (setF 8) tgN)) 2) (c := fun p : (List Int × List Int) × Nat => .tup [.int (p.2 : Nat), tu p.1.1])
    (mb := (sIf (tT (eB neD (eB ixD (eV 4) (eV 7)) (eV 8))) (sSeq (sAug 5 addI (eC (.int 1))) (sAug 6 addI (eB eqD (eB ixD (eV 4) (eV 7)) (eSl (eV 8) oN (oI (M.bnd (eB ixD (eV 4) (eV 7)) lenF)))))) sPass))
    (fun xs v => (∀ p ∈ xs, ts[p.2]? = some p.1) ∧ ∃ (a b : Nat) (c d : Option (Bool × D)), v = ⟨s0 ++ [some (false, .int (a : Int)), some (false, .int (b : Int)), c, d], w.st⟩ ∧ a + cW (xs.map (·.1)) = cW ts ∧ b + cS (xs.map (·.1)) = cS ts)
    (fun d ds v hi => by
      obtain ⟨h1, a, b, c, e, rfl, ha, hb⟩ := hi
      obtain ⟨⟨r, f⟩, i⟩ := d
      have hp := h1 _ List.mem_cons_self
      have ef : atI (List.map (tu ∘ fun x : List Int × List Int => x.2) ts) (i : Int) = some (tu f) := by
        rw [atI_ofNat]
        simp only [List.getElem?_map, hp]
        rfl
      have hc : cutD (r.map D.int) none (some (f.length : Int)) = (r.take f.length).map D.int := by
        rw [cutD_to _ (by omega)]
        simp
      simp only [List.map_cons, cW_cons, cS_cons] at ha hb
      by_cases hq : f = r
      · refine ⟨⟨s0 ++ [some (false, .int (a : Int)), some (false, .int (b : Int)), some (false, .int (i : Int)), some (false, tu r)], w.st⟩, .nx, ⟨s0 ++ [some (false, .int (a : Int)), some (false, .int (b : Int)), some (false, .int (i : Int)), some (false, tu r)], w.st⟩, by simp [s0], ?_, .inl rfl, fun p hp => h1 p (List.mem_cons_of_mem _ hp), a, b, _, _, rfl, ?_, ?_⟩
        · simp [s0, ef, hq, eqB_tu, -tu, shp_tu]
        · rw [if_pos hq] at ha; exact ha
        · rw [if_pos hq] at hb; exact hb
      · refine ⟨⟨s0 ++ [some (false, .int (a : Int)), some (false, .int (b : Int)), some (false, .int (i : Int)), some (false, tu r)], w.st⟩, .nx, ⟨s0 ++ [some (false, .int ((a + 1 : Nat) : Int)), some (false, .int ((b + (if f <+: r then 1 else 0) : Nat) : Int)), some (false, .int (i : Int)), some (false, tu r)], w.st⟩, by simp [s0], ?_, .inl rfl, fun p hp => h1 p (List.mem_cons_of_mem _ hp), a + 1, b + (if f <+: r then 1 else 0), _, _, rfl, ?_, ?_⟩
        · simp [s0, ef, hq, hc, eqB_tu, shp_tu, List.prefix_iff_eq_take, -List.map_take]
          by_cases hz : f = List.take f.length r
          · rw [if_pos hz, decide_eq_true hz]; rfl
          · rw [if_neg hz, decide_eq_false hz]; rfl
        · rw [if_neg hq] at ha; omega
        · rw [if_neg hq] at hb; omega)
    (ts.zipIdx 0) ⟨s0 ++ [some (false, .int (0 : Nat)), some (false, .int (0 : Nat)), none, none], w.st⟩ ⟨fun p hp => List.mk_mem_zipIdx_iff_getElem?.mp hp, 0, 0, _, _, rfl, by simp, by simp⟩
  obtain ⟨_, a, b, c, d, rfl, ha, hb⟩ := h2
  have ha : a = cW ts := ha
  have hb : b = cS ts := hb
  subst ha hb
  refine fnD_of (w' := ⟨s0 ++ [some (false, .int (cW ts : Int)), some (false, .int (cS ts : Int)), c, d], w.st⟩) (sSeq_nx (w1 := ⟨s0 ++ [some (false, .int 0), some (false, .int 0), none, none], w.st⟩) ?_ (sSeq_nx (sFor_ap (w := ⟨s0 ++ [some (false, .int (0 : Nat)), some (false, .int (0 : Nat)), none, none], w.st⟩) (iRg_eq (ds := [tus (rows m ls t)]) ?_ ?_) h1) ?_)) rfl
  · simp [s0]
  · exact lC_of (bnd_of (a := [pD m ls, tu t]) (w1 := ⟨s0 ++ [some (false, .int (0 : Nat)), some (false, .int (0 : Nat)), none, none], w.st⟩) (by simp [s0]) (rows_of_eq h ht _)) lN_of
  · simp [hr, numb_map]
  · simp [s0, leD]
theorem PlanOk.ll {x : Int} (hx : 0 ≤ x ∧ x < ls.length) : (lotOf ls x).length ≤ 7 := h.len _ (lotOf_mem hx.1 hx.2)
end
end LawT


set_option Elab.async false
set_option linter.all false
set_option maxRecDepth 100000
set_option maxHeartbeats 400000
namespace LawT
open PySem L2 Dl Plain
section
variable {m : Nat} {ls : List (List Int)} (h : PlanOk m ls)
include h
theorem can_come_eq {t : List Int} (ht : TextOk ls t) {l k : Int} (hl : 0 ≤ l ∧ l ≤ 7) (hk : 0 ≤ k ∧ k ≤ 7) (ts : List (List Int × List Int)) (hr : rows m ls t = ts.map (·.1))
    (hf : ∀ (i : Nat) f, (ts.map (·.2))[i]? = some f → RowOk ls i f) (w : W) :
    fnD 5 dn_can_come [pD m ls, .int l, .int k, tu t, tus (ts.map (·.2))] w = .ok (.bl (decide ((cW ts : Int) - (if (cS ts : Int) < k then (cS ts : Int) else k) ≤ l))) w := by
  have hlen : (ts.map (·.2)).length = m := by
    have := congrArg List.length hr
    simp [rows, mrs] at this
    simp [this]
  have htt : ∀ x ∈ t, 0 ≤ x ∧ x ≤ (ls.length : Int) - 1 := fun x hx => by
    have := ht.rng x hx
    omega
  have e1 : atI [D.int (m : Int), tus ls] 1 = some (tus ls) := rfl
  let W1 : W := ⟨args 5 [pD m ls, .int l, .int k, tu t, tus (ts.map (·.2))], w.st⟩
  refine fnD_of (w' := W1) ?_ rfl
  unfold dn_can_come
  have a1 : lC (eV 0) lN W1 = .ok [pD m ls] W1 := by simp [W1]
  have a2 : lC (eV 1) (lC (eV 2) lN) W1 = .ok [.int l, .int k] W1 := by simp [W1]
  have a3 : lC (M.bnd (eB ixD (eV 0) (eC (.int 1))) lenF) (lC (eV 3) lN) W1 = .ok [.int ls.length, tu t] W1 := by simp [W1, e1]
  have a4 : lC (eV 0) (lC (eV 4) lN) W1 = .ok [pD m ls, tus (ts.map (·.2))] W1 := by simp [W1]
  have a5 : lC (eV 0) (lC (eV 1) (lC (eV 2) (lC (eV 3) (lC (eV 4) lN)))) W1 = .ok [pD m ls, .int l, .int k, tu t, tus (ts.map (·.2))] W1 := by simp [W1]
  have b1 := sE_of (bnd_of a1 (need_plan_eq h W1))
  have b2 := sE_of (bnd_of a2 (need_faults_eq l k W1 hl hk))
  have b3 := sE_of (bnd_of a3 (need_text_eq (ls.length : Int) t W1 ht.len htt))
  have b4 := sE_of (bnd_of a4 (need_post_eq h hlen hf W1))
  have b5 := sRet_of (bnd_of a5 (comes_of_eq h ht l k ts hr W1))
  exact sSeq_nx b1 (sSeq_nx b2 (sSeq_nx b3 (sSeq_nx b4 b5)))
/-! ### the least form -/
def heard (ls : List (List Int)) (c : Int) : List Int := ((ls.zipIdx 0).filter fun p => decide (c ≤ (p.1.length : Int))).map fun p => (p.2 : Int)
omit h in
theorem mem_heard {c x : Int} (hx : 0 ≤ x ∧ x < ls.length) : x ∈ heard ls c ↔ dp ls c x x = true := by
  obtain ⟨n, rfl⟩ := Int.eq_ofNat_of_zero_le hx.1
  have hn : n < ls.length := by omega
  simp only [heard, List.mem_map, List.mem_filter, decide_eq_true_eq, dp, com_self, Prod.exists, List.mk_mem_zipIdx_iff_getElem?]
  constructor
  · rintro ⟨l, i, ⟨h1, h2⟩, h3⟩
    have : i = n := by omega
    subst this
    simpa [lotOf, h1] using h2
  · intro h2
    exact ⟨ls[n], n, ⟨by simp [hn], by simpa [lotOf, hn] using h2⟩, rfl⟩
theorem heard_of_eq (c : Int) (w : W) : fnD 4 dn_heard_of [pD m ls, .int c] w = .ok (.lst ((heard ls c).map .int)) w := by
  refine fnD_of (w' := ⟨args 4 [pD m ls, .int c], w.st⟩) ?_ rfl
  have e1 : atI [D.int (m : Int), tus ls] 1 = some (tus ls) := rfl
  simp only [dn_heard_of, sRet_u, bnd_ap]
  rw [eLc_eq (l := ls.zipIdx 0) (c := fun p : List Int × Nat => .tup [.int (p.2 : Nat), tu p.1]) (p := fun p => decide (c ≤ (p.1.length : Int))) (g := fun p => .int (p.2 : Int)) (w := ⟨args 4 [pD m ls, .int c], w.st⟩)]
  · simp [heard]
  · exact iRg_eq (ds := [tus ls]) (by simp [e1]) (by simp [numb_map])
  · have := h.l5
    simp only [List.length_zipIdx]
    exact sL_of (by omega)
  · rfl
  · intro x hx
    exact ⟨⟨[some (false, pD m ls), some (false, .int c), some (false, .int (x.2 : Nat)), some (false, tu x.1)], w.st⟩, rfl, rfl, by simp [geD], fun _ => by simp⟩
theorem are_free_eq {c x y : Int} (hx : 0 ≤ x ∧ x < ls.length) (hy : 0 ≤ y ∧ y < ls.length) (w : W) : fnD 4 dn_are_free [pD m ls, .int c, .int x, .int y] w = .ok (.bl (decide (x ≠ y) && decide (((com ls x y).length : Int) < c))) w := by
  refine fnD_of (w' := ⟨args 4 [pD m ls, .int c, .int x, .int y], w.st⟩) ?_ rfl
  have e := fun w => common_of_eq h hx hy w
  unfold dn_are_free
  generalize fnD 4 dn_common_of = F at e ⊢
  by_cases hq : x = y
  · simp [hq, eqB_int, shp]
  · simp [hq, eqB_int, shp, e, ltD]
end
end LawT


set_option Elab.async false
set_option linter.all false
set_option maxRecDepth 100000
set_option maxHeartbeats 400000
namespace LawT
open PySem L2 Dl Plain
theorem ixN_nat {n i : Nat} (h : i < n) : ixN n (i : Int) = some i := by
  simp [ixN, h]
theorem map_erase {α β : Type} (f : α → β) (l : List α) (i : Nat) : (l.map f).eraseIdx i = (l.eraseIdx i).map f := by
  rw [List.eraseIdx_eq_take_drop_succ, List.eraseIdx_eq_take_drop_succ, List.map_append, List.map_take, List.map_drop]
theorem popK_nat {l : List Int} {q : Nat} (hq : q < l.length) (hl : l.length ≤ 1000000) : popK (l.map .int) (.int (q : Int)) = some (.int (l.getD q 0), (l.eraseIdx q).map .int) := by
  have e : -(2 ^ 63 : Int) ≤ q ∧ (q : Int) < 2 ^ 63 := by constructor <;> omega
  have e2 : ixN (l.map D.int).length (q : Int) = some q := ixN_nat (by simpa using hq)
  simp only [popK_u, if_pos e, e2, map_erase]
  simp [hq]
theorem appK_lt {ds : List D} {d : D} (h : ds.length < 1000000) : appK ds d = some (.non, ds ++ [d]) := by
  have : ds.length < sizeLine := Nat.lt_of_lt_of_le h sizeLine_ge
  simp [this]
theorem ownL_of {i : Nat} {mm : M D} {k : List D → D → Option (D × List D)} {w w2 : W} {xs ds ds' : List D} {d r : D} (h0 : w.sl[i]? = some (some (true, .lst xs))) (h1 : mm w = .ok d w2) (h2 : w2.sl[i]? = some (some (true, .lst ds))) (h3 : k ds d = some (r, ds')) :
    ownL i mm k w = .ok r { w2 with sl := w2.sl.set i (some (true, .lst ds')) } := by
  rw [ownL_u]
  simp only [h0, h1, andThen_ok, h2, h3]
theorem appK_int {l : List Int} {x : Int} (h : l.length < 1000000) : appK (l.map .int) (.int x) = some (.non, (l ++ [x]).map .int) := by
  rw [appK_lt (by simpa using h)]
  simp
def noT (s : Option (Bool × D)) : Prop := ∀ d, s ≠ some (true, d)
section
variable {m : Nat} {ls : List (List Int)} (h : PlanOk m ls)
include h
omit h in
theorem free_dp {c x y : Int} (hx : dp ls c x x = true) : (decide (x ≠ y) && decide (((com ls x y).length : Int) < c)) = !dp ls c x y := by
  by_cases e : x = y
  · subst e
    simp [hx]
  · by_cases h2 : c ≤ ((com ls x y).length : Int)
    · simp [dp, e, h2]
      try omega
    · simp [dp, e, h2]
      try omega
/-- the slots of first_of -/
def fS (m : Nat) (ls : List (List Int)) (c : Int) (t l f : List Int) (s6 s7 : Option (Bool × D)) (st : List SO) : W :=
  ⟨[some (false, pD m ls), some (false, .int c), some (false, tu t), some (false, .lst ((heard ls c).map .int)), some (true, .lst (l.map .int)), some (true, .lst (f.map .int)), s6, s7, none, none], st⟩
theorem fronts_eq {c : Int} {t l f : List Int} {s6 s7 : Option (Bool × D)} {st : List SO} (h7 : noT s7) (hl : ∀ x ∈ l, (0 ≤ x ∧ x < ls.length) ∧ dp ls c x x = true) (hn : l.length ≤ 40) :
    eLc [7] (iRg r1D (lC (M.bnd (eP 4) lenF) lN)) (setF 7) (tT (eAll true [9] (iSq (eSlV 4 oN (oI (eV 7)))) (setF 9) cY (M.bnd (lC (eV 0) (lC (eV 1) (lC (eBV ixD 4 (eV 7)) (lC (eV 9) lN)))) (fnD 4 dn_are_free)))) (eV 7) (fS m ls c t l f s6 s7 st)
      = .ok (.lst ((fronts (dp ls c) l).map fun i : Nat => D.int i)) (fS m ls c t l f s6 s7 st) := by
  have a1 : lC (M.bnd (eP 4) lenF) lN (fS m ls c t l f s6 s7 st) = .ok [.int (l.length : Int)] (fS m ls c t l f s6 s7 st) := by simp [fS]
  have a2 : iRg r1D (lC (M.bnd (eP 4) lenF) lN) (fS m ls c t l f s6 s7 st) = .ok ((List.range l.length).map fun i : Nat => D.int i) (fS m ls c t l f s6 s7 st) := by
    have := iRg_eq (f := r1D) a1 (r1D_nat (by omega))
    simpa [mrs, Function.comp_def] using this
  refine eLc_eq (p := fun i => (l.take i).all fun y => !dp ls c (l.getD i 0) y) (g := fun i : Nat => D.int i) a2 ?_ ?_ ?_
  · rw [List.length_range]
    exact sL_of (by omega)
  · cases s7 with
    | none => rfl
    | some p =>
      obtain ⟨b, d⟩ := p
      cases b with
      | false => rfl
      | true => exact absurd rfl (h7 d)
  · intro i hi
    have hi := List.mem_range.mp hi
    refine ⟨fS m ls c t l f s6 (some (false, .int i)) st, rfl, rfl, ?_, fun _ => by simp [fS]⟩
    refine tT_of ?_
    have e1 : iSq (eSlV 4 oN (oI (eV 7))) (fS m ls c t l f s6 (some (false, .int i)) st) = .ok ((l.take i).map D.int) (fS m ls c t l f s6 (some (false, .int i)) st) := by
      simp [fS, cutD_to]
    refine eAll_tt (q := fun y => !dp ls c (l.getD i 0) y) e1 rfl ?_
    intro y hy
    have hy := List.mem_of_mem_take hy
    have hg : l.getD i 0 ∈ l := by simp [hi]
    let W3 : W := ⟨[some (false, pD m ls), some (false, .int c), some (false, tu t), some (false, .lst ((heard ls c).map .int)), some (true, .lst (l.map .int)), some (true, .lst (f.map .int)), s6, some (false, .int i), none, some (false, .int y)], st⟩
    refine ⟨W3, rfl, rfl, ?_⟩
    have e2 : lC (eV 0) (lC (eV 1) (lC (eBV ixD 4 (eV 7)) (lC (eV 9) lN))) W3 = .ok [pD m ls, .int c, .int (l.getD i 0), .int y] W3 := by
      simp [W3, atI_map, atI_ofNat, hi]
    have e3 := bnd_of e2 (are_free_eq h (c := c) (hl _ hg).1 (hl _ hy).1 W3)
    rw [free_dp (hl _ hg).2] at e3
    exact e3
theorem first_of_eq {t : List Int} (ht : TextOk ls t) (c : Int) (w : W) : ∃ w', w'.st = w.st ∧ dn_first_of ⟨args 10 [pD m ls, .int c, tu t], w.st⟩ = .ok (.rt (tu (nf (dp ls c) 64 (t.filter fun z => dp ls c z z)))) w' := by
  have a1 : lC (eV 0) (lC (eV 1) lN) ⟨args 10 [pD m ls, .int c, tu t], w.st⟩ = .ok [pD m ls, .int c] ⟨args 10 [pD m ls, .int c, tu t], w.st⟩ := by simp
  let W1 : W := ⟨[some (false, pD m ls), some (false, .int c), some (false, tu t), some (false, .lst ((heard ls c).map .int)), none, none, none, none, none, none], w.st⟩
  have a2 : sSet 3 (M.bnd (lC (eV 0) (lC (eV 1) lN)) (fnD 4 dn_heard_of)) ⟨args 10 [pD m ls, .int c, tu t], w.st⟩ = .ok .nx W1 := sSet_of (bnd_of a1 (heard_of_eq h c _)) rfl
  have htl := ht.len
  have b1 : eLc [8] (iSq (eV 2)) (setF 8) (tT (eB (inD false) (eV 8) (eV 3))) (eV 8) W1 = .ok (.lst ((t.filter fun z => dp ls c z z).map .int)) W1 := by
    refine eLc_eq (l := t) (c := D.int) (p := fun z => dp ls c z z) (g := D.int) (by simp [W1]) (sL_of (by omega)) rfl ?_
    intro x hx
    refine ⟨⟨[some (false, pD m ls), some (false, .int c), some (false, tu t), some (false, .lst ((heard ls c).map .int)), none, none, none, none, some (false, .int x), none], w.st⟩, rfl, rfl, ?_, fun _ => by simp⟩
    have := mem_heard (c := c) (ht.rng x hx)
    have e : decide (x ∈ heard ls c) = dp ls c x x := by
      rw [Bool.eq_iff_iff]
      simpa using this
    simp [inB_int, shp, e]
  have b2 : sPair true true 4 5 (eLc [8] (iSq (eV 2)) (setF 8) (tT (eB (inD false) (eV 8) (eV 3))) (eV 8)) (eLs lN) W1 = .ok .nx (fS m ls c t (t.filter fun z => dp ls c z z) [] none none w.st) := by
    rw [sPair_u, bnd_ap, b1, andThen_ok]
    simp [W1, fS]
  obtain ⟨w', c1, c2⟩ := while_inv (c := M.bnd (eP 4) truN) (mb := (sSeq (sSet 6 (eLc [7] (iRg r1D (lC (M.bnd (eP 4) lenF) lN)) (setF 7) (tT (eAll true [9] (iSq (eSlV 4 oN (oI (eV 7)))) (setF 9) cY (M.bnd (lC (eV 0) (lC (eV 1) (lC (eBV ixD 4 (eV 7)) (lC (eV 9) lN)))) (fnD 4 dn_are_free)))) (eV 7))) (sSeq (sSet 7 (eMinK 7 (eV 6) (eBV ixD 4 (eV 7)))) (sE (ownL 5 (ownL 4 (eV 7) popK) appK)))))
    (fun n v => ∃ (l f : List Int) (s6 s7 : Option (Bool × D)) (k : Nat), n = l.length ∧ l.length + f.length ≤ 40 ∧ noT s7 ∧ (∀ x ∈ l, (0 ≤ x ∧ x < ls.length) ∧ dp ls c x x = true) ∧ v = fS m ls c t l f s6 s7 w.st ∧ f ++ nf (dp ls c) (l.length + k) l = nf (dp ls c) 64 (t.filter fun z => dp ls c z z))
    (fun v => ∃ (f : List Int) (s6 s7 : Option (Bool × D)), v = fS m ls c t [] f s6 s7 w.st ∧ f = nf (dp ls c) 64 (t.filter fun z => dp ls c z z))
    (by
      rintro n v ⟨l, f, s6, s7, k, rfl, hlen, h7, hl, rfl, hf⟩
      cases l with
      | nil =>
        right
        refine ⟨fS m ls c t [] f s6 s7 w.st, by simp [fS], f, s6, s7, rfl, ?_⟩
        rw [← hf]
        cases k <;> simp [nf]
      | cons a l =>
        left
        obtain ⟨bs, hbs⟩ := fronts_cons (dep := dp ls c) a l
        obtain ⟨p1, p2⟩ := pick_spec (dep := dp ls c) a l
        have p3 := (mem_fronts.mp p1).1
        have hp : pick (dp ls c) (a :: l) = minBy (fun i => (a :: l).getD i 0) 0 bs := by simp only [pick, hbs]
        have e0 := fronts_eq h (t := t) (f := f) (s6 := s6) (st := w.st) h7 hl (by omega)
        rw [hbs] at e0
        have e1 := sSet_of (i := 6) (w2 := fS m ls c t (a :: l) f (some (false, .lst ((0 :: bs).map fun i : Nat => D.int i))) s7 w.st) e0 rfl
        have e2 : eMinK 7 (eV 6) (eBV ixD 4 (eV 7)) (fS m ls c t (a :: l) f (some (false, .lst ((0 :: bs).map fun i : Nat => D.int i))) s7 w.st) = .ok (.int (pick (dp ls c) (a :: l) : Nat)) (fS m ls c t (a :: l) f (some (false, .lst ((0 :: bs).map fun i : Nat => D.int i))) s7 w.st) := by
          rw [hp]
          refine eMinK_eq (c := fun i : Nat => D.int i) (k := fun i => (a :: l).getD i 0) (d := 0) (ds := bs) (by simp [fS]) ?_ ?_
          · cases s7 with
            | none => rfl
            | some p =>
              obtain ⟨b, d⟩ := p
              cases b with
              | false => rfl
              | true => exact absurd rfl (h7 d)
          · intro i hi
            rw [← hbs] at hi
            have hi := (mem_fronts.mp hi).1
            refine ⟨fS m ls c t (a :: l) f (some (false, .lst ((0 :: bs).map fun i : Nat => D.int i))) (some (false, .int i)) w.st, rfl, rfl, ?_⟩
            have : atI ((a :: l).map D.int) (i : Int) = some (.int ((a :: l).getD i 0)) := by
              rw [atI_map, atI_ofNat, List.getElem?_eq_getElem hi]
              simp [List.getElem?_eq_getElem hi]
            simp only [List.map_cons] at this
            simp [fS, this]
        have e3 := sSet_of (i := 7) (w2 := fS m ls c t (a :: l) f (some (false, .lst ((0 :: bs).map fun i : Nat => D.int i))) (some (false, .int (pick (dp ls c) (a :: l) : Nat))) w.st) e2 rfl
        have e4 : sE (ownL 5 (ownL 4 (eV 7) popK) appK) (fS m ls c t (a :: l) f (some (false, .lst ((0 :: bs).map fun i : Nat => D.int i))) (some (false, .int (pick (dp ls c) (a :: l) : Nat))) w.st) = .ok .nx (fS m ls c t ((a :: l).eraseIdx (pick (dp ls c) (a :: l))) (f ++ [(a :: l).getD (pick (dp ls c) (a :: l)) 0]) (some (false, .lst ((0 :: bs).map fun i : Nat => D.int i))) (some (false, .int (pick (dp ls c) (a :: l) : Nat))) w.st) := by
          generalize pick (dp ls c) (a :: l) = q at p3
          generalize a :: l = A at p3 hlen
          have g1 := popK_nat p3 (by omega)
          have g2 := appK_int (l := f) (x := A.getD q 0) (by omega)
          exact sE_of (ownL_of (w2 := fS m ls c t (A.eraseIdx q) f (some (false, .lst ((0 :: bs).map fun i : Nat => D.int i))) (some (false, .int (q : Nat))) w.st) rfl (ownL_of (i := 4) (w2 := fS m ls c t A f (some (false, .lst ((0 :: bs).map fun i : Nat => D.int i))) (some (false, .int (q : Nat))) w.st) rfl rfl rfl g1) rfl g2)
        have hlen2 : ((a :: l).eraseIdx (pick (dp ls c) (a :: l))).length = l.length := by
          rw [List.length_eraseIdx_of_lt p3]
          simp
        refine ⟨fS m ls c t (a :: l) f s6 s7 w.st, .nx, _, l.length, by simp [fS], sSeq_nx e1 (sSeq_nx e3 e4), .inl rfl, by simp, _, _, _, _, k, hlen2.symm, ?_, ?_, ?_, rfl, ?_⟩
        · rw [hlen2]
          simp at hlen ⊢
          omega
        · intro d
          simp
        · intro x hx
          exact hl x (List.mem_of_mem_eraseIdx hx)
        · rw [← hf, hlen2]
          have : (a :: l).length + k = (l.length + k) + 1 := by simp; omega
          rw [this, nf]
          simp)
    64 (t.filter fun z => dp ls c z z).length _ (by have := List.length_filter_le (fun z => dp ls c z z) t; omega) ⟨t.filter fun z => dp ls c z z, [], none, none, 64 - (t.filter fun z => dp ls c z z).length, rfl, by have := List.length_filter_le (fun z => dp ls c z z) t; simp; omega, fun d => by simp, fun x hx => ⟨ht.rng x (List.mem_filter.mp hx).1, (List.mem_filter.mp hx).2⟩, rfl, by
      have := List.length_filter_le (fun z => dp ls c z z) t
      rw [show (t.filter fun z => dp ls c z z).length + (64 - (t.filter fun z => dp ls c z z).length) = 64 by omega]
      rfl⟩
  obtain ⟨f, s6, s7, rfl, hf⟩ := c2
  refine ⟨fS m ls c t [] f s6 s7 w.st, rfl, ?_⟩
  have d1 : sRet (M.bnd (eP 5) tupleL) (fS m ls c t [] f s6 s7 w.st) = .ok (.rt (tu (nf (dp ls c) 64 (t.filter fun z => dp ls c z z)))) (fS m ls c t [] f s6 s7 w.st) := by
    rw [← hf]
    simp [fS]
  exact sSeq_nx a2 (sSeq_nx b2 (sSeq_nx c1 d1))
def firstP (ls : List (List Int)) (c : Int) (t : List Int) : List Int := nf (dp ls c) 64 (t.filter fun z => dp ls c z z)
theorem first_of_eq' {t : List Int} (ht : TextOk ls t) (c : Int) (w : W) : fnD 10 dn_first_of [pD m ls, .int c, tu t] w = .ok (tu (firstP ls c t)) w := by
  obtain ⟨w', h1, h2⟩ := first_of_eq h ht c w
  exact fnD_of h2 h1
theorem first_alike_eq {t : List Int} (ht : TextOk ls t) {c : Int} (hc : 1 ≤ c ∧ c ≤ 22) (w : W) : fnD 3 dn_first_alike [pD m ls, .int c, tu t] w = .ok (tu (firstP ls c t)) w := by
  have htt : ∀ x ∈ t, 0 ≤ x ∧ x ≤ (ls.length : Int) - 1 := fun x hx => by
    have := ht.rng x hx
    omega
  have e1 : atI [D.int (m : Int), tus ls] 1 = some (tus ls) := rfl
  let W1 : W := ⟨args 3 [pD m ls, .int c, tu t], w.st⟩
  refine fnD_of (w' := W1) ?_ rfl
  have a1 : lC (eV 0) lN W1 = .ok [pD m ls] W1 := by simp [W1]
  have a2 : lC (eV 1) lN W1 = .ok [.int c] W1 := by simp [W1]
  have a3 : lC (M.bnd (eB ixD (eV 0) (eC (.int 1))) lenF) (lC (eV 2) lN) W1 = .ok [.int ls.length, tu t] W1 := by simp [W1, e1]
  have a5 : lC (eV 0) (lC (eV 1) (lC (eV 2) lN)) W1 = .ok [pD m ls, .int c, tu t] W1 := by simp [W1]
  have b1 := sE_of (bnd_of a1 (need_plan_eq h W1))
  have b2 := sE_of (bnd_of a2 (need_count_eq c W1 hc))
  have b3 := sE_of (bnd_of a3 (need_text_eq (ls.length : Int) t W1 ht.len htt))
  have b5 := sRet_of (bnd_of a5 (first_of_eq' h ht c W1))
  exact sSeq_nx b1 (sSeq_nx b2 (sSeq_nx b3 b5))
theorem alike_eq {t u : List Int} (ht : TextOk ls t) (hu : TextOk ls u) {c : Int} (hc : 1 ≤ c ∧ c ≤ 22) (w : W) : fnD 4 dn_alike [pD m ls, .int c, tu t, tu u] w = .ok (.bl (decide (firstP ls c t = firstP ls c u))) w := by
  have htt : ∀ x ∈ t, 0 ≤ x ∧ x ≤ (ls.length : Int) - 1 := fun x hx => by
    have := ht.rng x hx
    omega
  have huu : ∀ x ∈ u, 0 ≤ x ∧ x ≤ (ls.length : Int) - 1 := fun x hx => by
    have := hu.rng x hx
    omega
  have e1 : atI [D.int (m : Int), tus ls] 1 = some (tus ls) := rfl
  let W1 : W := ⟨args 4 [pD m ls, .int c, tu t, tu u], w.st⟩
  refine fnD_of (w' := W1) ?_ rfl
  have a1 : lC (eV 0) lN W1 = .ok [pD m ls] W1 := by simp [W1]
  have a2 : lC (eV 1) lN W1 = .ok [.int c] W1 := by simp [W1]
  have a3 : lC (M.bnd (eB ixD (eV 0) (eC (.int 1))) lenF) (lC (eV 2) lN) W1 = .ok [.int ls.length, tu t] W1 := by simp [W1, e1]
  have a4 : lC (M.bnd (eB ixD (eV 0) (eC (.int 1))) lenF) (lC (eV 3) lN) W1 = .ok [.int ls.length, tu u] W1 := by simp [W1, e1]
  have a5 : lC (eV 0) (lC (eV 1) (lC (eV 2) lN)) W1 = .ok [pD m ls, .int c, tu t] W1 := by simp [W1]
  have a6 : lC (eV 0) (lC (eV 1) (lC (eV 3) lN)) W1 = .ok [pD m ls, .int c, tu u] W1 := by simp [W1]
  have b1 := sE_of (bnd_of a1 (need_plan_eq h W1))
  have b2 := sE_of (bnd_of a2 (need_count_eq c W1 hc))
  have b3 := sE_of (bnd_of a3 (need_text_eq (ls.length : Int) t W1 ht.len htt))
  have b4 := sE_of (bnd_of a4 (need_text_eq (ls.length : Int) u W1 hu.len huu))
  have q : eqD (tu (firstP ls c t)) (tu (firstP ls c u)) W1 = .ok (.bl (decide (firstP ls c t = firstP ls c u))) W1 := by
    rw [eqD_u, shp_tu 10, shp_tu 10, Bool.true_and, if_pos rfl, eqB_tu]
    rfl
  have b5 := sRet_of (eB_of (bnd_of a5 (first_of_eq' h ht c W1)) (bnd_of a6 (first_of_eq' h hu c W1)) q)
  exact sSeq_nx b1 (sSeq_nx b2 (sSeq_nx b3 (sSeq_nx b4 b5)))
end
end LawT


set_option Elab.async false
set_option linter.all false
set_option maxRecDepth 100000
set_option maxHeartbeats 400000
namespace LawT
open PySem L2 Dl Plain
theorem fnD_st {n : Nat} {b : M Fl} {ds : List D} {d : D} {w w' : W} (h : b ⟨args n ds, w.st⟩ = .ok (.rt d) w') : fnD n b ds w = .ok d ⟨w.sl, w'.st⟩ := by
  simp only [fnD, h]
theorem modD_of {i j : Int} {w : W} (h : j ≠ 0) : modD (.int i) (.int j) w = .ok (.int (i.fmod j)) w := by
  rw [modD_u, i2_u0, if_pos h]
  rfl
theorem fdivD_of {i j : Int} {w : W} (h : j ≠ 0 ∧ j.natAbs < 1073741824) : fdivD (.int i) (.int j) w = .ok (.int (i.fdiv j)) w := by
  rw [fdivD_u, i2_u0, if_pos h]
  rfl
theorem mulD_of {i j : Int} {w : W} (h : -(2 ^ 64) < j ∧ j < 2 ^ 64) : mulD (.int i) (.int j) w = .ok (.int (i * j)) w := by
  rw [mulD_u0, if_pos (.inr h)]
  rfl
theorem pow18 {w : W} : eB powD (eC (.int 10)) (eC (.int 18)) w = .ok (.int (10 ^ 18)) w := by
  rw [eB_u, eC_u, bnd_ap, ret_ap, andThen_ok, eC_u, bnd_ap, ret_ap, andThen_ok]
  simp only [powD, i2_u0]
  rw [if_pos (by decide)]
  rfl
/-! ### the draws -/
def stS (ns : List Int) (a b c : Int) : List SO := [.lst [.scr ns, .int a, .int b, .int c]]
def RS (ns : List Int) (st : List SO) : Prop := ∃ a b c, st = stS ns a b c ∧ 0 ≤ a
section
variable {ns : List Int} {a b c : Int} {sl : List (Option (Bool × D))}
theorem rd0 (h : sl[0]? = some (some (false, .ob 0))) : eIxS (eV 0) (eC (.int 0)) ⟨sl, stS ns a b c⟩ = .ok (.scr ns) ⟨sl, stS ns a b c⟩ := by
  simp [h, stS]
  rfl
theorem rd1 (h : sl[0]? = some (some (false, .ob 0))) : eIxS (eV 0) (eC (.int 1)) ⟨sl, stS ns a b c⟩ = .ok (.int a) ⟨sl, stS ns a b c⟩ := by
  simp [h, stS]
  rfl
theorem rd2 (h : sl[0]? = some (some (false, .ob 0))) : eIxS (eV 0) (eC (.int 2)) ⟨sl, stS ns a b c⟩ = .ok (.int b) ⟨sl, stS ns a b c⟩ := by
  simp [h, stS]
  rfl
theorem rd3 (h : sl[0]? = some (some (false, .ob 0))) : eIxS (eV 0) (eC (.int 3)) ⟨sl, stS ns a b c⟩ = .ok (.int c) ⟨sl, stS ns a b c⟩ := by
  simp [h, stS]
  rfl
theorem wr1 (h : sl[0]? = some (some (false, .ob 0))) (x : Int) : tgS (eV 0) (eC (.int 1)) (.int x) ⟨sl, stS ns a b c⟩ = .ok () ⟨sl, stS ns x b c⟩ := by
  simp [h, stS]
  rfl
theorem wr2 (h : sl[0]? = some (some (false, .ob 0))) (x : Int) : tgS (eV 0) (eC (.int 2)) (.int x) ⟨sl, stS ns a b c⟩ = .ok () ⟨sl, stS ns a x c⟩ := by
  simp [h, stS]
  rfl
theorem wr3 (h : sl[0]? = some (some (false, .ob 0))) (x : Int) : tgS (eV 0) (eC (.int 3)) (.int x) ⟨sl, stS ns a b c⟩ = .ok () ⟨sl, stS ns a b x⟩ := by
  simp [h, stS]
  rfl
end
theorem taken_eq {ns : List Int} {w : W} (hr : RS ns w.st) {many : Int} (h1 : 1 ≤ many) (h2 : many < 1073741824) :
    ∃ k st', fnD 4 dn__law_taken [.ob 0, .int many] w = .ok (.int k) ⟨w.sl, st'⟩ ∧ RS ns st' ∧ 0 ≤ k ∧ k < many := by
  obtain ⟨a, b, c, e, ha⟩ := hr
  have hm0 : many ≠ 0 := by omega
  have hmn : many ≠ 0 ∧ many.natAbs < 1073741824 := ⟨hm0, by omega⟩
  have fm : ∀ x : Int, 0 ≤ x.fmod many ∧ x.fmod many < many := fun x => ⟨Int.fmod_nonneg_of_pos x (by omega), Int.fmod_lt_of_pos x (by omega)⟩
  let Z (s2 s3 : Option (Bool × D)) : List (Option (Bool × D)) := [some (false, .ob 0), some (false, .int many), s2, s3]
  have v1 : ∀ s2 s3 st, eV 1 ⟨Z s2 s3, st⟩ = .ok (.int many) ⟨Z s2 s3, st⟩ := fun _ _ _ => rfl
  have t1 : tT (eB gtD (eIxS (eV 0) (eC (.int 3))) (eC (.int 0))) ⟨Z none none, stS ns a b c⟩ = .ok (decide (c > 0)) ⟨Z none none, stS ns a b c⟩ :=
    tT_of (eB_of (rd3 rfl) rfl rfl)
  have hst : (⟨args 4 [.ob 0, .int many], w.st⟩ : W) = ⟨Z none none, stS ns a b c⟩ := by rw [e]; rfl
  by_cases hc : c > 0
  · rw [decide_eq_true hc] at t1
    have q1 : M.bnd (eIxS (eV 0) (eC (.int 3))) intF ⟨Z none none, stS ns a b c⟩ = .ok (.int c) ⟨Z none none, stS ns a b c⟩ := bnd_of (rd3 rfl) rfl
    have q2 := sSet_of (i := 2) (w2 := ⟨Z (some (false, .int (c.fmod many))) none, stS ns a b c⟩) (eB_of q1 (v1 _ _ _) (modD_of hm0)) rfl
    have q3 := sAsg_of (eB_of (rd3 (ns := ns) (a := a) (b := b) (c := c) (sl := Z (some (false, .int (c.fmod many))) none) rfl) (v1 _ _ _) (fdivD_of hmn)) (wr3 rfl _)
    have q4 : sRet (eV 2) ⟨Z (some (false, .int (c.fmod many))) none, stS ns a b (c.fdiv many)⟩ = .ok (.rt (.int (c.fmod many))) ⟨Z (some (false, .int (c.fmod many))) none, stS ns a b (c.fdiv many)⟩ := rfl
    have q5 := sSeq_nx q2 (sSeq_nx q3 q4)
    refine ⟨_, _, fnD_st (w' := ⟨Z (some (false, .int (c.fmod many))) none, stS ns a b (c.fdiv many)⟩) ?_, ⟨_, _, _, rfl, ha⟩, (fm c).1, (fm c).2⟩
    rw [hst]
    exact sSeq_rt (sIf_tt t1 q5)
  · rw [decide_eq_false hc] at t1
    have q0 : sIf (tT (eB gtD (eIxS (eV 0) (eC (.int 3))) (eC (.int 0)))) (sSeq (sSet 2 (eB modD (M.bnd (eIxS (eV 0) (eC (.int 3))) intF) (eV 1))) (sSeq (sAsg (tgS (eV 0) (eC (.int 3))) (eB fdivD (eIxS (eV 0) (eC (.int 3))) (eV 1))) (sRet (eV 2)))) sPass ⟨Z none none, stS ns a b c⟩ = .ok .nx ⟨Z none none, stS ns a b c⟩ := sIf_ff t1 rfl
    have q1 : sAsg (tgS (eV 0) (eC (.int 1))) (eB addD (eIxS (eV 0) (eC (.int 1))) (eC (.int 1))) ⟨Z none none, stS ns a b c⟩ = .ok .nx ⟨Z none none, stS ns (a + 1) b c⟩ := sAsg_of (eB_of (rd1 rfl) rfl rfl) (wr1 rfl _)
    have t2 : tT (eB gtD (eIxS (eV 0) (eC (.int 1))) (M.bnd (eIxS (eV 0) (eC (.int 0))) lenF)) ⟨Z none none, stS ns (a + 1) b c⟩ = .ok (decide (a + 1 > (ns.length : Int))) ⟨Z none none, stS ns (a + 1) b c⟩ :=
      tT_of (eB_of (rd1 rfl) (bnd_of (rd0 rfl) rfl) rfl)
    have p1 : (2147483647 : Int) ≠ 0 := by decide
    have p7 : (7 : Int) ≠ 0 ∧ (7 : Int).natAbs < 1073741824 := by decide
    have p2 : -(2 ^ 64) < (48271 : Int) ∧ (48271 : Int) < 2 ^ 64 := by decide
    by_cases hl : a + 1 > (ns.length : Int)
    · rw [decide_eq_true hl] at t2
      have r1 : eB mulD (eIxS (eV 0) (eC (.int 2))) (eC (.int 48271)) ⟨Z none none, stS ns (a + 1) b c⟩ = .ok (.int (b * 48271)) ⟨Z none none, stS ns (a + 1) b c⟩ := eB_of (rd2 rfl) rfl (mulD_of p2)
      have r2 : M.bnd (eB addD (eB mulD (eIxS (eV 0) (eC (.int 2))) (eC (.int 48271))) (eC (.int 11))) intF ⟨Z none none, stS ns (a + 1) b c⟩ = .ok (.int (b * 48271 + 11)) ⟨Z none none, stS ns (a + 1) b c⟩ := bnd_of (eB_of r1 rfl rfl) rfl
      have r3 := sAsg_of (eB_of r2 (show eC (.int 2147483647) _ = _ from rfl) (modD_of p1)) (wr2 rfl _)
      have r4 := sRet_of (eB_of (bnd_of (f := intF) (eB_of (rd2 (ns := ns) (a := a + 1) (b := (b * 48271 + 11).fmod 2147483647) (c := c) (sl := Z none none) rfl) (show eC (.int 7) _ = _ from rfl) (fdivD_of p7)) rfl) (v1 _ _ _) (modD_of hm0))
      refine ⟨(((b * 48271 + 11).fmod 2147483647).fdiv 7).fmod many, _, fnD_st (w' := ⟨Z none none, stS ns (a + 1) ((b * 48271 + 11).fmod 2147483647) c⟩) ?_, ⟨_, _, _, rfl, by omega⟩, (fm _).1, (fm _).2⟩
      rw [hst]
      exact sSeq_nx q0 (sSeq_nx q1 (sSeq_rt (sIf_tt t2 (sSeq_nx r3 r4))))
    · rw [decide_eq_false hl] at t2
      obtain ⟨n, hn⟩ := Int.eq_ofNat_of_zero_le ha
      have hnl : n < ns.length := by omega
      let x := ns[n]
      have q2 := sIf_ff (a := (sSeq (sAsg (tgS (eV 0) (eC (.int 2))) (eB modD (M.bnd (eB addD (eB mulD (eIxS (eV 0) (eC (.int 2))) (eC (.int 48271))) (eC (.int 11))) intF) (eC (.int 2147483647)))) (sRet (eB modD (M.bnd (eB fdivD (eIxS (eV 0) (eC (.int 2))) (eC (.int 7))) intF) (eV 1))))) t2 (show sPass _ = _ from rfl)
      have s1 : eB subD (eIxS (eV 0) (eC (.int 1))) (eC (.int 1)) ⟨Z none none, stS ns (a + 1) b c⟩ = .ok (.int (a + 1 - 1)) ⟨Z none none, stS ns (a + 1) b c⟩ := eB_of (rd1 rfl) rfl rfl
      have s2 : ixD (.scr ns) (.int (a + 1 - 1)) ⟨Z none none, stS ns (a + 1) b c⟩ = .ok (.int x) ⟨Z none none, stS ns (a + 1) b c⟩ := by
        have : a + 1 - 1 = (n : Int) := by omega
        rw [this, ixD_u2, atI_ofNat, List.getElem?_eq_getElem hnl]
        rfl
      have s3 := sSet_of (i := 3) (w2 := ⟨Z none (some (false, .int x)), stS ns (a + 1) b c⟩) (eB_of (rd0 rfl) s1 s2) rfl
      let Y := Z none (some (false, .int x))
      have r1 : eB mulD (eIxS (eV 0) (eC (.int 2))) (eC (.int 48271)) ⟨Y, stS ns (a + 1) b c⟩ = .ok (.int (b * 48271)) ⟨Y, stS ns (a + 1) b c⟩ := eB_of (rd2 rfl) rfl (mulD_of p2)
      have r2 : M.bnd (eB addD (eB addD (eB mulD (eIxS (eV 0) (eC (.int 2))) (eC (.int 48271))) (eV 3)) (eC (.int 11))) intF ⟨Y, stS ns (a + 1) b c⟩ = .ok (.int (b * 48271 + x + 11)) ⟨Y, stS ns (a + 1) b c⟩ := bnd_of (eB_of (eB_of r1 rfl rfl) rfl rfl) rfl
      have r3 := sAsg_of (eB_of r2 (show eC (.int 2147483647) _ = _ from rfl) (modD_of p1)) (wr2 rfl _)
      have r4 : sRet (eB modD (M.bnd (eV 3) intF) (eV 1)) = sRet (eB modD (M.bnd (eV 3) intF) (eV 1)) := rfl
      have t3 : tT (eB geD (eV 3) (eB powD (eC (.int 10)) (eC (.int 18)))) ⟨Y, stS ns (a + 1) ((b * 48271 + x + 11).fmod 2147483647) c⟩ = .ok (decide (x ≥ 10 ^ 18)) ⟨Y, stS ns (a + 1) ((b * 48271 + x + 11).fmod 2147483647) c⟩ :=
        tT_of (eB_of (show eV 3 _ = .ok (.int x) _ from rfl) pow18 rfl)
      have u : ∃ c', sIf (tT (eB geD (eV 3) (eB powD (eC (.int 10)) (eC (.int 18))))) (sAsg (tgS (eV 0) (eC (.int 3))) (eB fdivD (eV 3) (eV 1))) sPass ⟨Y, stS ns (a + 1) ((b * 48271 + x + 11).fmod 2147483647) c⟩ = .ok .nx ⟨Y, stS ns (a + 1) ((b * 48271 + x + 11).fmod 2147483647) c'⟩ := by
        by_cases hx : x ≥ 10 ^ 18
        · rw [decide_eq_true hx] at t3
          exact ⟨_, sIf_tt t3 (sAsg_of (eB_of (show eV 3 _ = .ok (.int x) _ from rfl) (v1 _ _ _) (fdivD_of hmn)) (wr3 rfl _))⟩
        · rw [decide_eq_false hx] at t3
          exact ⟨_, sIf_ff t3 rfl⟩
      obtain ⟨c', u⟩ := u
      have r5 : sRet (eB modD (M.bnd (eV 3) intF) (eV 1)) ⟨Y, stS ns (a + 1) ((b * 48271 + x + 11).fmod 2147483647) c'⟩ = .ok (.rt (.int (x.fmod many))) ⟨Y, stS ns (a + 1) ((b * 48271 + x + 11).fmod 2147483647) c'⟩ :=
        sRet_of (eB_of (bnd_of (show eV 3 _ = .ok (.int x) _ from rfl) rfl) (v1 _ _ _) (modD_of hm0))
      refine ⟨x.fmod many, _, fnD_st (w' := ⟨Y, stS ns (a + 1) ((b * 48271 + x + 11).fmod 2147483647) c'⟩) ?_, ⟨_, _, _, rfl, by omega⟩, (fm _).1, (fm _).2⟩
      rw [hst]
      exact sSeq_nx q0 (sSeq_nx q1 (sSeq_nx q2 (sSeq_nx s3 (sSeq_nx r3 (sSeq_nx u r5)))))
end LawT


set_option Elab.async false
set_option linter.all false
set_option maxRecDepth 100000
set_option maxHeartbeats 400000
namespace LawT
open PySem L2 Dl Plain
theorem mrs_len (n : Nat) : (mrs n).length = n := by simp [mrs]
theorem mem_mrs {n : Nat} {x : Int} : x ∈ mrs n ↔ 0 ≤ x ∧ x < n := by
  simp only [mrs, List.mem_map, List.mem_range]
  constructor
  · rintro ⟨k, h, rfl⟩
    omega
  · rintro ⟨h1, h2⟩
    obtain ⟨k, rfl⟩ := Int.eq_ofNat_of_zero_le h1
    exact ⟨k, by omega, rfl⟩
theorem mrs_inc (n : Nat) : (mrs n).Pairwise (· < ·) := by
  unfold mrs
  refine List.Pairwise.map _ (fun a b h => ?_) List.pairwise_lt_range
  omega
theorem rg_of {e : M (List D)} {w w1 : W} {n : Nat} (h : e w = .ok [.int (n : Int)] w1) (hn : n ≤ 1000000) : iRg r1D e w = .ok ((mrs n).map D.int) w1 := iRg_eq h (r1D_nat hn)
/-! ### plans drawn -/
theorem law_plan_eq {ns : List Int} {w : W} (hr : RS ns w.st) {lt : Nat} (h1 : 1 ≤ lt) (h2 : lt ≤ 3) :
    ∃ m ls st', fnD 7 dn__law_plan [.ob 0, .int (lt : Int), .int 5] w = .ok (pD m ls) ⟨w.sl, st'⟩ ∧ RS ns st' ∧ PlanOk m ls ∧ m ≤ 5 ∧ ls.length = lt := by
  obtain ⟨k, st1, g1, g2, g3, g4⟩ := taken_eq (w := ⟨args 7 [.ob 0, .int (lt : Int), .int 5], w.st⟩) hr (many := 5) (by omega) (by omega)
  obtain ⟨n, rfl⟩ := Int.eq_ofNat_of_zero_le g3
  let Z (f : List (List Int)) (s5 s6 : Option (Bool × D)) : List (Option (Bool × D)) := [some (false, .ob 0), some (false, .int (lt : Int)), some (false, .int 5), some (false, .int ((1 + n : Nat) : Int)), some (true, .lst (f.map tu)), s5, s6]
  have e1 : sPair false true 3 4 (eB addD (eC (.int 1)) (M.bnd (lC (eV 0) (lC (eV 2) lN)) (fnD 4 dn__law_taken))) (eLs lN) ⟨args 7 [.ob 0, .int (lt : Int), .int 5], w.st⟩ = .ok .nx ⟨Z [] none none, st1⟩ := by
    have a1 : lC (eV 0) (lC (eV 2) lN) ⟨args 7 [.ob 0, .int (lt : Int), .int 5], w.st⟩ = .ok [.ob 0, .int 5] ⟨args 7 [.ob 0, .int (lt : Int), .int 5], w.st⟩ := rfl
    have a2 := eB_of (f := addD) (show eC (.int 1) ⟨args 7 [.ob 0, .int (lt : Int), .int 5], w.st⟩ = _ from rfl) (bnd_of a1 g1) rfl
    rw [sPair_u, bnd_ap, a2, addD_u0, ret_ap, andThen_ok]
    have : (1 : Int) + (n : Int) = ((1 + n : Nat) : Int) := by omega
    rw [this]
    simp [Z]
  have hm : 1 + n ≤ 5 := by omega
  have comp : ∀ (f : List (List Int)) (x : Int) (s6 : Option (Bool × D)) (st : List SO), RS ns st → noT s6 → ∃ l st', l.Sublist (mrs (1 + n)) ∧ RS ns st' ∧
      M.bnd (eLc [6] (iRg r1D (lC (eV 3) lN)) (setF 6) (tT (eB gtD (M.bnd (lC (eV 0) (lC (eC (.int 3)) lN)) (fnD 4 dn__law_taken)) (eC (.int 0)))) (eV 6)) tupleF ⟨Z f (some (false, .int x)) s6, st⟩ = .ok (tu l) ⟨Z f (some (false, .int x)) s6, st'⟩ := by
    intro f x s6 st hst h6
    have a1 : iRg r1D (lC (eV 3) lN) ⟨Z f (some (false, .int x)) s6, st⟩ = .ok ((mrs (1 + n)).map D.int) ⟨Z f (some (false, .int x)) s6, st⟩ := rg_of rfl (by omega)
    obtain ⟨w', l, c1, ⟨s, st', rfl, hst'⟩, c3⟩ := eLc_sub (as := setF 6) (ct := tT (eB gtD (M.bnd (lC (eV 0) (lC (eC (.int 3)) lN)) (fnD 4 dn__law_taken)) (eC (.int 0)))) (el := eV 6) (c := D.int) (g := D.int) (vs := [6])
      (fun v => ∃ s st, v = ⟨Z f (some (false, .int x)) s, st⟩ ∧ RS ns st) a1 (by rw [mrs_len]; exact sL_of (by omega)) (by
        cases s6 with
        | none => rfl
        | some p =>
          obtain ⟨b, d⟩ := p
          cases b with
          | false => rfl
          | true => exact absurd rfl (h6 d)) (by
        rintro y hy v ⟨s, st2, rfl, hst2⟩
        obtain ⟨k, st3, t1, t2, t3, t4⟩ := taken_eq (w := ⟨Z f (some (false, .int x)) (some (false, .int y)), st2⟩) hst2 (many := 3) (by omega) (by omega)
        refine ⟨⟨Z f (some (false, .int x)) (some (false, .int y)), st2⟩, decide (k > 0), ⟨Z f (some (false, .int x)) (some (false, .int y)), st3⟩, rfl, ?_, fun _ => rfl, _, _, rfl, t2⟩
        have a2 : lC (eV 0) (lC (eC (.int 3)) lN) ⟨Z f (some (false, .int x)) (some (false, .int y)), st2⟩ = .ok [.ob 0, .int 3] ⟨Z f (some (false, .int x)) (some (false, .int y)), st2⟩ := rfl
        exact tT_of (eB_of (bnd_of a2 t1) rfl rfl)) ⟨_, _, rfl, hst⟩
    exact ⟨l, st', c3, hst', bnd_of c1 rfl⟩
  obtain ⟨w', f1, f2⟩ := for_map (as := setF 5) (c := D.int) (mb := sE (ownL 4 (M.bnd (eLc [6] (iRg r1D (lC (eV 3) lN)) (setF 6) (tT (eB gtD (M.bnd (lC (eV 0) (lC (eC (.int 3)) lN)) (fnD 4 dn__law_taken)) (eC (.int 0)))) (eV 6)) tupleF) appK))
    (fun xs v => ∃ f s5 st, v = ⟨Z f s5 none, st⟩ ∧ RS ns st ∧ f.length + xs.length = lt ∧ ∀ l ∈ f, l.Sublist (mrs (1 + n)))
    (by
      rintro x xs v ⟨f, s5, st, rfl, hst, hl, hf⟩
      obtain ⟨l, st', d1, d2, d3⟩ := comp f x none st hst (fun d => by simp)
      have hfl : f.length < 1000000 := by simp at hl; omega
      have d4 : appK (f.map tu) (tu l) = some (.non, (f ++ [l]).map tu) := by
        rw [appK_lt (by simpa using hfl)]
        simp
      refine ⟨⟨Z f (some (false, .int x)) none, st⟩, .nx, ⟨Z (f ++ [l]) (some (false, .int x)) none, st'⟩, rfl, sE_of (ownL_of (i := 4) (w2 := ⟨Z f (some (false, .int x)) none, st'⟩) rfl d3 rfl d4), .inl rfl, f ++ [l], _, _, rfl, d2, ?_, ?_⟩
      · simp at hl ⊢
        omega
      · intro u hu
        rcases List.mem_append.mp hu with hu | hu
        · exact hf u hu
        · simp at hu
          subst hu
          exact d1)
    (mrs lt) ⟨Z [] none none, st1⟩ ⟨[], none, st1, rfl, g2, by simp [mrs_len], by simp⟩
  obtain ⟨f, s5, st, rfl, hst, hl, hf⟩ := f2
  refine ⟨1 + n, f, st, fnD_st (w' := ⟨Z f s5 none, st⟩) ?_, hst, ⟨by omega, by omega, by simp at hl; omega, by simp at hl; omega, ?_, ?_⟩, hm, by simpa using hl⟩
  · have e2 : sFor (iRg r1D (lC (eV 1) lN)) (setF 5) _ ⟨Z [] none none, st1⟩ = _ := sFor_ap (rg_of (n := lt) (w1 := ⟨Z [] none none, st1⟩) rfl (by omega)) f1
    have e3 : sRet (eTu (lC (eV 3) (lC (M.bnd (eP 4) tupleL) lN))) ⟨Z f s5 none, st⟩ = .ok (.rt (pD (1 + n) f)) ⟨Z f s5 none, st⟩ := by
      simp [Z]
    exact sSeq_nx e1 (sSeq_nx e2 e3)
  · intro l hlm x hx
    have := mem_mrs.mp ((hf l hlm).subset hx)
    exact ⟨this.1, by omega⟩
  · intro l hlm
    exact (mrs_inc _).sublist (hf l hlm)
/-! ### all short texts -/
def longer (L : Nat) (ts : List (List Int)) : List (List Int) := ts.flatMap fun t => (mrs L).map fun x => t ++ [x]
theorem longer_len (L : Nat) : ∀ ts, (longer L ts).length = ts.length * L
  | [] => by simp [longer]
  | t :: ts => by
    have := longer_len L ts
    simp only [longer, List.flatMap_cons, List.length_append, List.length_map, mrs_len, List.length_cons] at this ⊢
    rw [this, Nat.add_mul]
    omega
theorem longer_snoc (L : Nat) (ts : List (List Int)) (t : List Int) : longer L (ts ++ [t]) = longer L ts ++ (mrs L).map fun x => t ++ [x] := by
  simp [longer]
theorem law_texts_eq {L n : Nat} (hL : L ≤ 3) (hn : n ≤ 4) (w : W) : ∃ ts, fnD 8 dn__law_texts [.int (L : Int), .int (n : Int)] w = .ok (.lst (ts.map tu)) w ∧ ts ≠ [] ∧ ts.length ≤ 1000 ∧ ∀ t ∈ ts, t.length ≤ 4 ∧ ∀ x ∈ t, (0 : Int) ≤ x ∧ x < (L : Int) := by
  let Z (f l : List (List Int)) (s4 s5 s6 : Option (Bool × D)) : W := ⟨[some (false, .int (L : Int)), some (false, .int (n : Int)), some (false, .lst (f.map tu)), some (false, .lst (l.map tu)), s4, s5, s6, none], w.st⟩
  have z0 : sPair false false 2 3 (eLs (lC (eTu lN) lN)) (eLs (lC (eTu lN) lN)) ⟨args 8 [.int (L : Int), .int (n : Int)], w.st⟩ = .ok .nx (Z [[]] [[]] none none none) := by
    simp [Z]
  have inner : ∀ (f l : List (List Int)) (s4 s6 : Option (Bool × D)), l.length ≤ 1000 → (∀ x ∈ l, x.length ≤ 4) → ∃ s6', sFor (iSq (eV 3)) (setF 6) (sSet 5 (eB addD (eV 5) (eLc [7] (iRg r1D (lC (eV 0) lN)) (setF 7) cY (eB addD (eV 6) (eTu (lC (eV 7) lN)))))) (Z f l s4 (some (false, .lst [])) s6) = .ok .nx (Z f l s4 (some (false, .lst ((longer L l).map tu))) s6') := by
    intro f l s4 s6 hl hl4
    obtain ⟨w', i1, i2⟩ := for_map (as := setF 6) (c := tu) (mb := sSet 5 (eB addD (eV 5) (eLc [7] (iRg r1D (lC (eV 0) lN)) (setF 7) cY (eB addD (eV 6) (eTu (lC (eV 7) lN))))))
      (fun xs v => ∃ dn s6, l = dn ++ xs ∧ v = Z f l s4 (some (false, .lst ((longer L dn).map tu))) s6 ∧ ∀ x ∈ xs, x.length ≤ 4)
      (by
        rintro x xs v ⟨dn, s6, e, rfl, h4⟩
        have hd : dn.length ≤ 1000 := by
          have := congrArg List.length e
          simp at this
          omega
        have hlen := longer_len L dn
        have hle : dn.length * L ≤ 1000 * 3 := Nat.mul_le_mul hd hL
        let W6 := Z f l s4 (some (false, .lst ((longer L dn).map tu))) (some (false, tu x))
        refine ⟨W6, .nx, Z f l s4 (some (false, .lst ((longer L (dn ++ [x])).map tu))) (some (false, tu x)), rfl, ?_, .inl rfl, dn ++ [x], _, by rw [e]; simp, rfl, fun y hy => h4 y (List.mem_cons_of_mem _ hy)⟩
        have a1 : iRg r1D (lC (eV 0) lN) W6 = .ok ((mrs L).map D.int) W6 := rg_of rfl (by omega)
        have hx : x.length + 1 ≤ sizeLine := sL_of (by have := h4 x List.mem_cons_self; omega)
        · have a2 : eLc [7] (iRg r1D (lC (eV 0) lN)) (setF 7) cY (eB addD (eV 6) (eTu (lC (eV 7) lN))) W6 = .ok (.lst (((mrs L).filter fun _ => true).map fun y => tu (x ++ [y]))) W6 := by
            refine eLc_eq (p := fun _ => true) (g := fun y => tu (x ++ [y])) a1 (by rw [mrs_len]; exact sL_of (by omega)) rfl ?_
            intro y hy
            refine ⟨⟨[some (false, .int (L : Int)), some (false, .int (n : Int)), some (false, .lst (f.map tu)), some (false, .lst (l.map tu)), s4, some (false, .lst ((longer L dn).map tu)), some (false, tu x), some (false, .int y)], w.st⟩, rfl, rfl, rfl, fun _ => ?_⟩
            simp [hx]
          rw [List.filter_eq_self.mpr fun _ _ => rfl] at a2
          have a3 : addD (.lst ((longer L dn).map tu)) (.lst ((mrs L).map fun y => tu (x ++ [y]))) W6 = .ok (.lst ((longer L (dn ++ [x])).map tu)) W6 := by
            rw [addD_u4, if_pos]
            · rw [longer_snoc, List.map_append, List.map_map]
              rfl
            · simp only [List.length_map, mrs_len, hlen]
              exact sL_of (by omega)
          exact sSet_of (eB_of (show eV 5 W6 = .ok (.lst ((longer L dn).map tu)) W6 from rfl) a2 a3) rfl)
      l (Z f l s4 (some (false, .lst [])) s6) ⟨[], s6, rfl, rfl, hl4⟩
    obtain ⟨dn, s6', e, rfl, _⟩ := i2
    simp at e
    subst e
    exact ⟨s6', sFor_ap (w := Z f l s4 (some (false, .lst [])) s6) rfl i1⟩
  obtain ⟨w', o1, o2⟩ := for_map (as := setF 4) (c := D.int) (mb := (sSeq (sSet 5 (eLs lN)) (sSeq (sFor (iSq (eV 3)) (setF 6) (sSet 5 (eB addD (eV 5) (eLc [7] (iRg r1D (lC (eV 0) lN)) (setF 7) cY (eB addD (eV 6) (eTu (lC (eV 7) lN))))))) (sPair false false 2 3 (eB addD (eV 2) (eV 5)) (eV 5)))))
    (fun xs v => ∃ f l s4 s5 s6, v = Z f l s4 s5 s6 ∧ l.length * 3 ^ xs.length ≤ 81 ∧ f.length + 81 * xs.length ≤ 325 ∧ f ≠ [] ∧ xs.length ≤ 4 ∧ (∀ t ∈ f, t.length ≤ 4 ∧ ∀ x ∈ t, (0 : Int) ≤ x ∧ x < (L : Int)) ∧ (∀ t ∈ l, t.length + xs.length ≤ 4 ∧ ∀ x ∈ t, (0 : Int) ≤ x ∧ x < (L : Int)))
    (by
      rintro x xs v ⟨f, l, s4, s5, s6, rfl, k1, k2, k3, k4, k5, k6⟩
      have hp : 1 ≤ 3 ^ xs.length := Nat.pow_pos (by decide)
      have k1' : l.length * (3 ^ xs.length * 3) ≤ 81 := by
        rw [← Nat.pow_succ]
        exact k1
      have hl27 : l.length * 3 ≤ 81 := Nat.le_trans (Nat.mul_le_mul_left _ (by omega)) k1'
      simp only [List.length_cons] at k2 k4
      have hll := longer_len L l
      have hle : l.length * L ≤ l.length * 3 := Nat.mul_le_mul_left _ hL
      have i0 : sSet 5 (eLs lN) (Z f l (some (false, .int x)) s5 s6) = .ok .nx (Z f l (some (false, .int x)) (some (false, .lst [])) s6) := rfl
      obtain ⟨s6', i1⟩ := inner f l (some (false, .int x)) s6 (by omega) (fun t ht => by have := (k6 t ht).1; omega)
      have i2 : sPair false false 2 3 (eB addD (eV 2) (eV 5)) (eV 5) (Z f l (some (false, .int x)) (some (false, .lst ((longer L l).map tu))) s6') = .ok .nx (Z (f ++ longer L l) (longer L l) (some (false, .int x)) (some (false, .lst ((longer L l).map tu))) s6') := by
        have : (f.map tu).length + ((longer L l).map tu).length ≤ sizeLine := by
          simp only [List.length_map]
          exact sL_of (by omega)
        have a1 : eB addD (eV 2) (eV 5) (Z f l (some (false, .int x)) (some (false, .lst ((longer L l).map tu))) s6') = .ok (.lst ((f ++ longer L l).map tu)) (Z f l (some (false, .int x)) (some (false, .lst ((longer L l).map tu))) s6') := by
          refine eB_of (show eV 2 (Z f l (some (false, .int x)) (some (false, .lst ((longer L l).map tu))) s6') = .ok (.lst (f.map tu)) (Z f l (some (false, .int x)) (some (false, .lst ((longer L l).map tu))) s6') from rfl) (show eV 5 (Z f l (some (false, .int x)) (some (false, .lst ((longer L l).map tu))) s6') = .ok (.lst ((longer L l).map tu)) (Z f l (some (false, .int x)) (some (false, .lst ((longer L l).map tu))) s6') from rfl) ?_
          rw [addD_u4, if_pos this, List.map_append]
          rfl
        rw [sPair_u, bnd_ap, a1, andThen_ok]
        rfl
      have hmem : ∀ t ∈ longer L l, t.length + xs.length ≤ 4 ∧ ∀ x ∈ t, (0 : Int) ≤ x ∧ x < (L : Int) := by
        intro t ht
        simp only [longer, List.mem_flatMap, List.mem_map] at ht
        obtain ⟨u, hu, y, hy, rfl⟩ := ht
        obtain ⟨u1, u2⟩ := k6 u hu
        simp only [List.length_cons] at u1
        refine ⟨by simp; omega, ?_⟩
        intro z hz
        rcases List.mem_append.mp hz with hz | hz
        · exact u2 z hz
        · simp at hz
          subst hz
          exact mem_mrs.mp hy
      refine ⟨Z f l (some (false, .int x)) s5 s6, .nx, _, rfl, sSeq_nx i0 (sSeq_nx i1 i2), .inl rfl, _, _, _, _, _, rfl, ?_, ?_, ?_, by omega, ?_, hmem⟩
      · rw [hll]
        refine Nat.le_trans ?_ k1'
        rw [Nat.mul_comm (3 ^ xs.length) 3, ← Nat.mul_assoc]
        exact Nat.mul_le_mul_right _ hle
      · rw [List.length_append, hll]
        omega
      · simp [k3]
      · intro t ht
        rcases List.mem_append.mp ht with ht | ht
        · exact k5 t ht
        · have := hmem t ht
          exact ⟨by omega, this.2⟩)
    (mrs n) (Z [[]] [[]] none none none) ⟨[[]], [[]], none, none, none, rfl, by
      rw [mrs_len]
      have : 3 ^ n ≤ 3 ^ 4 := Nat.pow_le_pow_right (by decide) hn
      simp
      omega, by simp [mrs_len]; omega, by simp, by simp [mrs_len]; omega, by simp, by simp [mrs_len]; omega⟩
  obtain ⟨f, l, s4, s5, s6, rfl, k1, k2, k3, k4, k5, k6⟩ := o2
  refine ⟨f, fnD_of (w' := Z f l s4 s5 s6) (sSeq_nx z0 (sSeq_nx (sFor_ap (w := Z [[]] [[]] none none none) (rg_of (n := n) rfl (by omega)) o1) rfl)) rfl, k3, by simp at k2; omega, k5⟩
end LawT


set_option Elab.async false
set_option linter.all false
set_option maxRecDepth 100000
set_option maxHeartbeats 400000
namespace LawT
open PySem L2 Dl Plain
section
variable {m : Nat} {ls : List (List Int)} (h : PlanOk m ls)
include h
theorem law_rows_eq {t : List Int} (ht : TextOk ls t) (w : W) : fnD 5 dn__law_rows [pD m ls, tu t] w = .ok (tus (rows m ls t)) w := by
  have h7 := h.m7
  have htl := ht.len
  have e1 : atI [D.int (m : Int), tus ls] 1 = some (tus ls) := rfl
  let Z (f : List (List Int)) (s3 : Option (Bool × D)) : W := ⟨[some (false, pD m ls), some (false, tu t), some (true, .lst (f.map tu)), s3, none], w.st⟩
  have z0 : sOwn 2 (eLs lN) ⟨args 5 [pD m ls, tu t], w.st⟩ = .ok .nx (Z [] none) := by
    simp [Z]
  obtain ⟨w', o1, o2⟩ := for_map (as := setF 3) (c := D.int) (mb := sE (ownL 2 (M.bnd (eLc [4] (iSq (eV 1)) (setF 4) (tT (eB (inD false) (eV 3) (eB ixD (eB ixD (eV 0) (eC (.int 1))) (eV 4)))) (eV 4)) tupleF) appK))
    (fun xs v => ∃ dn s3, mrs m = dn ++ xs ∧ v = Z (dn.map (row ls t)) s3)
    (by
      rintro x xs v ⟨dn, s3, e, rfl⟩
      have hd : dn.length ≤ 7 := by
        have := congrArg List.length e
        simp [mrs_len] at this
        omega
      let W3 := Z (dn.map (row ls t)) (some (false, .int x))
      have a1 : eLc [4] (iSq (eV 1)) (setF 4) (tT (eB (inD false) (eV 3) (eB ixD (eB ixD (eV 0) (eC (.int 1))) (eV 4)))) (eV 4) W3 = .ok (.lst ((row ls t x).map .int)) W3 := by
        refine eLc_eq (l := t) (c := D.int) (p := fun z => decide (x ∈ lotOf ls z)) (g := D.int) rfl (sL_of (by omega)) rfl ?_
        intro y hy
        obtain ⟨x0, x1⟩ := ht.rng y hy
        refine ⟨⟨[some (false, pD m ls), some (false, tu t), some (true, .lst ((dn.map (row ls t)).map tu)), some (false, .int x), some (false, .int y)], w.st⟩, rfl, rfl, ?_, fun _ => rfl⟩
        simp [e1, atI_lot x0 x1, inB_int, shp]
      have a2 : appK ((dn.map (row ls t)).map tu) (tu (row ls t x)) = some (.non, ((dn ++ [x]).map (row ls t)).map tu) := by
        rw [appK_lt (by simp; omega)]
        simp
      exact ⟨W3, .nx, Z ((dn ++ [x]).map (row ls t)) (some (false, .int x)), rfl, sE_of (ownL_of (i := 2) (w2 := W3) rfl (bnd_of a1 rfl) rfl a2), .inl rfl, dn ++ [x], _, by rw [e]; simp, rfl⟩)
    (mrs m) (Z [] none) ⟨[], none, rfl, rfl⟩
  obtain ⟨dn, s3, e, rfl⟩ := o2
  simp at e
  subst e
  have a1 : lC (eB ixD (eV 0) (eC (.int 0))) lN (Z [] none) = .ok [.int (m : Int)] (Z [] none) := rfl
  exact fnD_of (w' := Z ((mrs m).map (row ls t)) s3) (sSeq_nx z0 (sSeq_nx (sFor_ap (rg_of (n := m) a1 (by omega)) o1) rfl)) rfl
omit h in
theorem law_starts_eq (a b : List Int) (w : W) : fnD 2 dn__law_starts [tu a, tu b] w = .ok (.bl (decide (a <+: b))) w := by
  let W1 : W := ⟨args 2 [tu a, tu b], w.st⟩
  have t1 : eB leD (M.bnd (eV 0) lenF) (M.bnd (eV 1) lenF) W1 = .ok (.bl (decide ((a.length : Int) ≤ (b.length : Int)))) W1 := by
    simp [W1, leD]
  by_cases hl : a.length ≤ b.length
  · rw [decide_eq_true (by omega)] at t1
    have t2 : eB eqD (eSl (eV 1) oN (oI (M.bnd (eV 0) lenF))) (eV 0) W1 = .ok (.bl (decide (a <+: b))) W1 := by
      have a1 : eSl (eV 1) oN (oI (M.bnd (eV 0) lenF)) W1 = .ok (tu (b.take a.length)) W1 := by
        simp [W1, cutD_to]
      refine eB_of a1 (show eV 0 W1 = .ok (tu a) W1 from rfl) ?_
      rw [eqD_u, shp_tu 10, shp_tu 10, Bool.true_and, if_pos rfl, eqB_tu]
      have : decide (b.take a.length = a) = decide (a <+: b) := by
        rw [Bool.eq_iff_iff, decide_eq_true_eq, decide_eq_true_eq, List.prefix_iff_eq_take]
        exact eq_comm
      rw [this]
      rfl
    exact fnD_of (w' := W1) (sRet_of (eAn_tt t1 t2)) rfl
  · rw [decide_eq_false (by omega)] at t1
    have hp : decide (a <+: b) = false := decide_eq_false fun k => hl k.length_le
    rw [hp]
    have t3 : eAn (eB leD (M.bnd (eV 0) lenF) (M.bnd (eV 1) lenF)) (eB eqD (eSl (eV 1) oN (oI (M.bnd (eV 0) lenF))) (eV 0)) W1 = .ok (.bl false) W1 := by
      rw [eAn_u, bnd_ap, t1, andThen_ok, truD_u1, bnd_ap, ret_ap, andThen_ok, if_neg Bool.false_ne_true]
      rfl
    exact fnD_of (w' := W1) (sRet_of t3) rfl
/-- what joined texts have -/
def JF (n1 n2 n3 l k : Int) : Prop := ∃ a b both : Int, 0 ≤ a ∧ a ≤ n1 ∧ a ≤ k ∧ 0 ≤ b ∧ b ≤ n2 ∧ b ≤ k ∧ both ≤ k - a ∧ both ≤ k - b ∧ n1 + n2 + n3 - a - b - both ≤ 2 * l
omit h in
theorem neD_tu (a b : List Int) (w : W) : neD (tu a) (tu b) w = .ok (.bl (!decide (a = b))) w := by
  rw [neD_u, shp_tu 10, shp_tu 10, Bool.true_and, if_pos rfl, eqB_tu]
  rfl
omit h in
theorem eqD_tu (a b : List Int) (w : W) : eqD (tu a) (tu b) w = .ok (.bl (decide (a = b))) w := by
  rw [eqD_u, shp_tu 10, shp_tu 10, Bool.true_and, if_pos rfl, eqB_tu]
  rfl
omit h in
theorem law_joined_eq (F S : List (List Int)) (hF : F.length ≤ 7) {l k : Int} (hk : 0 ≤ k ∧ k ≤ 7) (w : W) :
    ∃ r, fnD 12 dn__law_joined [tus F, tus S, .int l, .int k] w = .ok (.bl r) w ∧ (r = true → JF ((F.zip S).countP isOne : Nat) ((F.zip S).countP isOther : Nat) ((F.zip S).countP isRest : Nat) l k) := by
  let Z (a b c : Nat) (s7 s8 s9 s10 s11 : Option (Bool × D)) : W := ⟨[some (false, tus F), some (false, tus S), some (false, .int l), some (false, .int k), some (false, .int (a : Int)), some (false, .int (b : Int)), some (false, .int (c : Int)), s7, s8, s9, s10, s11], w.st⟩
  have z0 : sAsg (tgT (tgC (setF 4) (tgC (setF 5) (tgC (setF 6) tgN))) 3) (eTu (lC (eC (.int 0)) (lC (eC (.int 0)) (lC (eC (.int 0)) lN)))) ⟨args 12 [tus F, tus S, .int l, .int k], w.st⟩ = .ok .nx (Z 0 0 0 none none none none none) := by
    simp [Z]
  have inc : ∀ n : Nat, (n : Int) + 1 = ((n + 1 : Nat) : Int) := fun n => by omega
  obtain ⟨w', o1, o2⟩ := for_map (as := tgT (tgC (setF 7) (tgC (setF 8) tgN)) 2) (c := fun p : List Int × List Int => .tup [tu p.1, tu p.2])
    (mb := (sIf (tT (eB neD (eV 7) (eV 8))) (sIf (tT (M.bnd (lC (eV 8) (lC (eV 7) lN)) (fnD 2 dn__law_starts))) (sSet 4 (eB addD (eV 4) (eC (.int 1)))) (sIf (tT (M.bnd (lC (eV 7) (lC (eV 8) lN)) (fnD 2 dn__law_starts))) (sSet 5 (eB addD (eV 5) (eC (.int 1)))) (sSet 6 (eB addD (eV 6) (eC (.int 1)))))) sPass))
    (fun xs v => ∃ a b c s7 s8, v = Z a b c s7 s8 none none none ∧ a + xs.countP isOne = (F.zip S).countP isOne ∧ b + xs.countP isOther = (F.zip S).countP isOther ∧ c + xs.countP isRest = (F.zip S).countP isRest)
    (by
      rintro ⟨f, s⟩ xs v ⟨a, b, c, s7, s8, rfl, ha, hb, hc⟩
      simp only [List.countP_cons] at ha hb hc
      let W1 := Z a b c (some (false, tu f)) (some (false, tu s)) none none none
      have q1 : tT (eB neD (eV 7) (eV 8)) W1 = .ok (!decide (f = s)) W1 := tT_of (eB_of (show eV 7 W1 = .ok (tu f) W1 from rfl) (show eV 8 W1 = .ok (tu s) W1 from rfl) (neD_tu f s W1))
      have q2 : tT (M.bnd (lC (eV 8) (lC (eV 7) lN)) (fnD 2 dn__law_starts)) W1 = .ok (decide (s <+: f)) W1 := tT_of (bnd_of (a := [tu s, tu f]) (w1 := W1) rfl (law_starts_eq s f W1))
      have q3 : tT (M.bnd (lC (eV 7) (lC (eV 8) lN)) (fnD 2 dn__law_starts)) W1 = .ok (decide (f <+: s)) W1 := tT_of (bnd_of (a := [tu f, tu s]) (w1 := W1) rfl (law_starts_eq f s W1))
      by_cases h1 : f = s
      · rw [decide_eq_true h1] at q1
        refine ⟨W1, .nx, W1, rfl, sIf_ff q1 rfl, .inl rfl, a, b, c, _, _, rfl, ?_, ?_, ?_⟩
        · simpa [isOne, h1] using ha
        · simpa [isOther, h1] using hb
        · simpa [isRest, h1] using hc
      · rw [decide_eq_false h1] at q1
        by_cases h2 : s <+: f
        · rw [decide_eq_true h2] at q2
          have q4 : sSet 4 (eB addD (eV 4) (eC (.int 1))) W1 = .ok .nx (Z (a + 1) b c (some (false, tu f)) (some (false, tu s)) none none none) := by
            refine sSet_of (eB_of (show eV 4 W1 = .ok (.int (a : Int)) W1 from rfl) (show eC (.int 1) W1 = .ok (.int 1) W1 from rfl) (show addD (.int (a : Int)) (.int 1) W1 = .ok (.int ((a + 1 : Nat) : Int)) W1 from ?_)) rfl
            rw [addD_u0, inc]
            rfl
          refine ⟨W1, .nx, _, rfl, sIf_tt q1 (sIf_tt q2 q4), .inl rfl, a + 1, b, c, _, _, rfl, ?_, ?_, ?_⟩
          · simp [isOne, h1, h2] at ha; omega
          · simpa [isOther, h1, h2] using hb
          · simpa [isRest, h1, h2] using hc
        · rw [decide_eq_false h2] at q2
          by_cases h3 : f <+: s
          · rw [decide_eq_true h3] at q3
            have q4 : sSet 5 (eB addD (eV 5) (eC (.int 1))) W1 = .ok .nx (Z a (b + 1) c (some (false, tu f)) (some (false, tu s)) none none none) := by
              refine sSet_of (eB_of (show eV 5 W1 = .ok (.int (b : Int)) W1 from rfl) (show eC (.int 1) W1 = .ok (.int 1) W1 from rfl) (show addD (.int (b : Int)) (.int 1) W1 = .ok (.int ((b + 1 : Nat) : Int)) W1 from ?_)) rfl
              rw [addD_u0, inc]
              rfl
            refine ⟨W1, .nx, _, rfl, sIf_tt q1 (sIf_ff q2 (sIf_tt q3 q4)), .inl rfl, a, b + 1, c, _, _, rfl, ?_, ?_, ?_⟩
            · simpa [isOne, h1, h2] using ha
            · simp [isOther, h1, h2, h3] at hb; omega
            · simpa [isRest, h1, h2, h3] using hc
          · rw [decide_eq_false h3] at q3
            have q4 : sSet 6 (eB addD (eV 6) (eC (.int 1))) W1 = .ok .nx (Z a b (c + 1) (some (false, tu f)) (some (false, tu s)) none none none) := by
              refine sSet_of (eB_of (show eV 6 W1 = .ok (.int (c : Int)) W1 from rfl) (show eC (.int 1) W1 = .ok (.int 1) W1 from rfl) (show addD (.int (c : Int)) (.int 1) W1 = .ok (.int ((c + 1 : Nat) : Int)) W1 from ?_)) rfl
              rw [addD_u0, inc]
              rfl
            refine ⟨W1, .nx, _, rfl, sIf_tt q1 (sIf_ff q2 (sIf_ff q3 q4)), .inl rfl, a, b, c + 1, _, _, rfl, ?_, ?_, ?_⟩
            · simpa [isOne, h1, h2] using ha
            · simpa [isOther, h1, h2, h3] using hb
            · simp [isRest, h1, h2, h3] at hc; omega)
    (F.zip S) (Z 0 0 0 none none none none none) ⟨0, 0, 0, none, none, rfl, by omega, by omega, by omega⟩
  obtain ⟨n1, n2, n3, s7, s8, rfl, ha, hb, hc⟩ := o2
  simp only [List.countP_nil, Nat.add_zero] at ha hb hc
  have hz : iRg zpD (lC (eV 0) (lC (eV 1) lN)) (Z 0 0 0 none none none none none) = .ok ((F.zip S).map fun p : List Int × List Int => .tup [tu p.1, tu p.2]) (Z 0 0 0 none none none none none) := by
    refine iRg_eq (ds := [tus F, tus S]) rfl ?_
    rw [zpD_u1, zipP_map]
  have f1 := sFor_ap hz o1
  have hn1 : n1 ≤ 7 := by
    rw [ha]
    refine Nat.le_trans List.countP_le_length ?_
    simp
    omega
  have hn2 : n2 ≤ 7 := by
    rw [hb]
    refine Nat.le_trans List.countP_le_length ?_
    simp
    omega
  obtain ⟨kn, rfl⟩ := Int.eq_ofNat_of_zero_le hk.1
  -- the range of losses
  have rng : ∀ (j : Nat) (n : Nat) (v : W), n ≤ 7 → eV j v = .ok (.int (n : Int)) v → eV 3 v = .ok (.int (kn : Int)) v → iRg r1D (lC (eB addD (M.bnd (lC (eV j) (lC (eV 3) lN)) minF) (eC (.int 1))) lN) v = .ok ((mrs (min n kn + 1)).map D.int) v := by
    intro j n v hn e1 e2
    refine rg_of (lC_of (eB_of (bnd_of (lC_of e1 (lC_of e2 lN_of)) rfl) (show eC (.int 1) v = .ok (.int 1) v from rfl) (show addD (.int (if (kn : Int) < (n : Int) then (kn : Int) else (n : Int))) (.int 1) v = .ok (.int ((min n kn + 1 : Nat) : Int)) v from ?_)) lN_of) (by omega)
    rw [addD_u0]
    have : (if (kn : Int) < (n : Int) then (kn : Int) else (n : Int)) + 1 = ((min n kn + 1 : Nat) : Int) := by
      by_cases q : kn < n
      · rw [if_pos (by omega)]; omega
      · rw [if_neg (by omega)]; omega
    rw [this]
    rfl
  have body : ∀ (a b : Int) (s11 : Option (Bool × D)), 0 ≤ a → a ≤ min n1 kn → 0 ≤ b → b ≤ min n2 kn → ∃ f w2, (sSeq (sSet 11 (M.bnd (lC (eB subD (eV 3) (eV 9)) (lC (eB subD (eV 3) (eV 10)) (lC (eB subD (eB subD (eB addD (eB addD (eV 4) (eV 5)) (eV 6)) (eV 9)) (eV 10)) lN))) min3F)) (sIf (tT (eB leD (eB subD (eB subD (eB subD (eB addD (eB addD (eV 4) (eV 5)) (eV 6)) (eV 9)) (eV 10)) (eV 11)) (eB mulD (eC (.int 2)) (eV 2)))) (sRet (eC (.bl true))) sPass)) (Z n1 n2 n3 s7 s8 (some (false, .int a)) (some (false, .int b)) s11) = .ok f w2 ∧ ((f = .nx ∧ ∃ s11, w2 = Z n1 n2 n3 s7 s8 (some (false, .int a)) (some (false, .int b)) s11) ∨ (f = .rt (.bl true) ∧ w2.st = w.st ∧ JF n1 n2 n3 l kn)) := by
    intro a b s11 a0 a1 b0 b1
    let W1 := Z n1 n2 n3 s7 s8 (some (false, .int a)) (some (false, .int b)) s11
    let u : Int := (n1 : Int) + n2 + n3 - a - b
    let bo : Int := if u < (if (kn : Int) - b < (kn : Int) - a then (kn : Int) - b else (kn : Int) - a) then u else (if (kn : Int) - b < (kn : Int) - a then (kn : Int) - b else (kn : Int) - a)
    let W2 := Z n1 n2 n3 s7 s8 (some (false, .int a)) (some (false, .int b)) (some (false, .int bo))
    have c1 : sSet 11 (M.bnd (lC (eB subD (eV 3) (eV 9)) (lC (eB subD (eV 3) (eV 10)) (lC (eB subD (eB subD (eB addD (eB addD (eV 4) (eV 5)) (eV 6)) (eV 9)) (eV 10)) lN))) min3F) W1 = .ok .nx W2 := rfl
    have c2 : eB mulD (eC (.int 2)) (eV 2) W2 = .ok (.int (2 * l)) W2 := by
      refine eB_of (show eC (.int 2) W2 = .ok (.int 2) W2 from rfl) (show eV 2 W2 = .ok (.int l) W2 from rfl) ?_
      rw [mulD_u0, if_pos (.inl (by decide))]
      rfl
    have c3 : tT (eB leD (eB subD (eB subD (eB subD (eB addD (eB addD (eV 4) (eV 5)) (eV 6)) (eV 9)) (eV 10)) (eV 11)) (eB mulD (eC (.int 2)) (eV 2))) W2 = .ok (decide (u - bo ≤ 2 * l)) W2 :=
      tT_of (eB_of (show eB subD (eB subD (eB subD (eB addD (eB addD (eV 4) (eV 5)) (eV 6)) (eV 9)) (eV 10)) (eV 11) W2 = .ok (.int (u - bo)) W2 from rfl) c2 rfl)
    by_cases hq : u - bo ≤ 2 * l
    · rw [decide_eq_true hq] at c3
      refine ⟨.rt (.bl true), W2, sSeq_nx c1 (sIf_tt c3 rfl), .inr ⟨rfl, rfl, a, b, bo, a0, by omega, by omega, b0, by omega, by omega, ?_, ?_, by omega⟩⟩
      · show bo ≤ _
        simp only [bo]
        repeat' split
        all_goals omega
      · show bo ≤ _
        simp only [bo]
        repeat' split
        all_goals omega
    · rw [decide_eq_false hq] at c3
      exact ⟨.nx, W2, sSeq_nx c1 (sIf_ff c3 rfl), .inl ⟨rfl, _, rfl⟩⟩
  obtain ⟨fl, w', g1, g2⟩ := for_map_ret (as := setF 9) (c := D.int) (mb := (sFor (iRg r1D (lC (eB addD (M.bnd (lC (eV 5) (lC (eV 3) lN)) minF) (eC (.int 1))) lN)) (setF 10) (sSeq (sSet 11 (M.bnd (lC (eB subD (eV 3) (eV 9)) (lC (eB subD (eV 3) (eV 10)) (lC (eB subD (eB subD (eB addD (eB addD (eV 4) (eV 5)) (eV 6)) (eV 9)) (eV 10)) lN))) min3F)) (sIf (tT (eB leD (eB subD (eB subD (eB subD (eB addD (eB addD (eV 4) (eV 5)) (eV 6)) (eV 9)) (eV 10)) (eV 11)) (eB mulD (eC (.int 2)) (eV 2)))) (sRet (eC (.bl true))) sPass))))
    (fun xs v => (∀ x ∈ xs, 0 ≤ x ∧ x ≤ min n1 kn) ∧ ∃ s9 s10 s11, v = Z n1 n2 n3 s7 s8 s9 s10 s11)
    (fun r v => r = .bl true ∧ v.st = w.st ∧ JF n1 n2 n3 l kn)
    (by
      rintro a xs v ⟨hx, s9, s10, s11, rfl⟩
      obtain ⟨a0, a1⟩ := hx a List.mem_cons_self
      let W1 := Z n1 n2 n3 s7 s8 (some (false, .int a)) s10 s11
      obtain ⟨fl, w', g1, g2⟩ := for_map_ret (as := setF 10) (c := D.int) (mb := (sSeq (sSet 11 (M.bnd (lC (eB subD (eV 3) (eV 9)) (lC (eB subD (eV 3) (eV 10)) (lC (eB subD (eB subD (eB addD (eB addD (eV 4) (eV 5)) (eV 6)) (eV 9)) (eV 10)) lN))) min3F)) (sIf (tT (eB leD (eB subD (eB subD (eB subD (eB addD (eB addD (eV 4) (eV 5)) (eV 6)) (eV 9)) (eV 10)) (eV 11)) (eB mulD (eC (.int 2)) (eV 2)))) (sRet (eC (.bl true))) sPass)))
        (fun xs v => (∀ x ∈ xs, 0 ≤ x ∧ x ≤ min n2 kn) ∧ ∃ s10 s11, v = Z n1 n2 n3 s7 s8 (some (false, .int a)) s10 s11)
        (fun r v => r = .bl true ∧ v.st = w.st ∧ JF n1 n2 n3 l kn)
        (by
          rintro b ys v ⟨hy, s10, s11, rfl⟩
          obtain ⟨b0, b1⟩ := hy b List.mem_cons_self
          obtain ⟨f, w2, e1, e2⟩ := body a b s11 a0 a1 b0 b1
          refine ⟨Z n1 n2 n3 s7 s8 (some (false, .int a)) (some (false, .int b)) s11, f, w2, rfl, e1, ?_⟩
          rcases e2 with ⟨rfl, s11', rfl⟩ | ⟨rfl, e3, e4⟩
          · exact .inl ⟨.inl rfl, fun x hx => hy x (List.mem_cons_of_mem _ hx), _, _, rfl⟩
          · exact .inr ⟨_, rfl, rfl, e3, e4⟩)
        (mrs (min n2 kn + 1)) W1 ⟨fun x hx => by have := mem_mrs.mp hx; omega, _, _, rfl⟩
      have k1 := sFor_ap (rng 5 n2 W1 hn2 rfl rfl) g1
      refine ⟨W1, fl, w', rfl, k1, ?_⟩
      rcases g2 with ⟨rfl, _, s10', s11', rfl⟩ | ⟨r, rfl, q⟩
      · exact .inl ⟨.inl rfl, fun x hx' => hx x (List.mem_cons_of_mem _ hx'), _, _, _, rfl⟩
      · exact .inr ⟨r, rfl, q⟩)
    (mrs (min n1 kn + 1)) (Z n1 n2 n3 s7 s8 none none none) ⟨fun x hx => by have := mem_mrs.mp hx; omega, _, _, _, rfl⟩
  have k1 := sFor_ap (rng 4 n1 (Z n1 n2 n3 s7 s8 none none none) hn1 rfl rfl) g1
  rw [← ha, ← hb, ← hc]
  rcases g2 with ⟨rfl, _, s9, s10, s11, rfl⟩ | ⟨r, rfl, rfl, q1, q2⟩
  · exact ⟨false, fnD_of (w' := Z n1 n2 n3 s7 s8 s9 s10 s11) (sSeq_nx z0 (sSeq_nx f1 (sSeq_nx k1 rfl))) rfl, fun e => by cases e⟩
  · exact ⟨true, fnD_of (w' := w') (sSeq_nx z0 (sSeq_nx f1 (sSeq_rt k1))) q1, fun _ => q2⟩
end
end LawT


set_option Elab.async false
set_option linter.all false
set_option maxRecDepth 100000
set_option maxHeartbeats 400000
namespace LawT
open PySem L2 Dl Plain
theorem eSl_to {mm : M D} {u : M (Option Int)} {w w1 w2 : W} {xs : List D} {i : Int} (h : mm w = .ok (.tup xs) w1) (h2 : u w1 = .ok (some i) w2) (h0 : 0 ≤ i) : eSl mm oN u w = .ok (.tup (xs.take i.toNat)) w2 := by
  rw [eSl_u, bnd_ap, h, andThen_ok, oN_u, bnd_ap, ret_ap, andThen_ok, bnd_ap, h2, andThen_ok, slD_u]
  simp only [cutD_to _ h0, ret_ap]
theorem oI_of {mm : M D} {w w1 : W} {i : Int} (h : mm w = .ok (.int i) w1) : oI mm w = .ok (some i) w1 := by
  rw [oI_u, bnd_ap, h, andThen_ok]
  rfl
theorem law_pick_eq {ns : List Int} {w : W} (hr : RS ns w.st) {ts : List (List Int)} (h0 : ts ≠ []) (h1 : ts.length ≤ 1000) :
    ∃ t st', fnD 2 dn__law_pick [.ob 0, .lst (ts.map tu)] w = .ok (tu t) ⟨w.sl, st'⟩ ∧ RS ns st' ∧ t ∈ ts := by
  have hp : 0 < ts.length := List.length_pos_iff.mpr h0
  obtain ⟨k, st1, g1, g2, g3, g4⟩ := taken_eq (w := ⟨args 2 [.ob 0, .lst (ts.map tu)], w.st⟩) hr (many := (ts.length : Int)) (by omega) (by omega)
  obtain ⟨n, rfl⟩ := Int.eq_ofNat_of_zero_le g3
  have hn : n < ts.length := by omega
  refine ⟨ts[n], st1, fnD_st (w' := ⟨args 2 [.ob 0, .lst (ts.map tu)], st1⟩) ?_, g2, List.getElem_mem hn⟩
  have a1 : lC (eV 0) (lC (M.bnd (eV 1) lenF) lN) ⟨args 2 [.ob 0, .lst (ts.map tu)], w.st⟩ = .ok [.ob 0, .int (ts.length : Int)] ⟨args 2 [.ob 0, .lst (ts.map tu)], w.st⟩ := by simp
  have a2 : ixD (.lst (ts.map tu)) (.int (n : Int)) ⟨args 2 [.ob 0, .lst (ts.map tu)], st1⟩ = .ok (tu ts[n]) ⟨args 2 [.ob 0, .lst (ts.map tu)], st1⟩ := by
    rw [ixD_u1, atI_map, atI_ofNat, List.getElem?_eq_getElem hn]
    rfl
  exact sRet_of (eB_of (show eV 1 ⟨args 2 [.ob 0, .lst (ts.map tu)], w.st⟩ = .ok (.lst (ts.map tu)) ⟨args 2 [.ob 0, .lst (ts.map tu)], w.st⟩ from rfl) (bnd_of a1 g1) a2)
/-- one step -/
def Step (ls : List (List Int)) (c : Int) (t o : List Int) : Prop :=
  (∃ p x q, t = p ++ x :: q ∧ o = p ++ q ∧ ((lotOf ls x).length : Int) < c) ∨ (∃ p x y q, t = p ++ x :: y :: q ∧ o = p ++ y :: x :: q ∧ x ≠ y ∧ ((com ls x y).length : Int) < c)
section
variable {m : Nat} {ls : List (List Int)} (h : PlanOk m ls)
include h
theorem law_common_eq {x y : Int} (hx : 0 ≤ x ∧ x < ls.length) (hy : 0 ≤ y ∧ y < ls.length) (w : W) : fnD 4 dn__law_common [pD m ls, .int x, .int y] w = .ok (.lst ((com ls x y).map .int)) w := by
  let W1 : W := ⟨args 4 [pD m ls, .int x, .int y], w.st⟩
  have e1 : atI [D.int (m : Int), tus ls] 1 = some (tus ls) := rfl
  have a1 : eLc [3] (iSq (eB ixD (eB ixD (eV 0) (eC (.int 1))) (eV 1))) (setF 3) (tT (eB (inD false) (eV 3) (eB ixD (eB ixD (eV 0) (eC (.int 1))) (eV 2)))) (eV 3) W1 = .ok (.lst ((com ls x y).map .int)) W1 := by
    refine eLc_eq (l := lotOf ls x) (c := D.int) (p := fun i => decide (i ∈ lotOf ls y)) (g := D.int) ?_ ?_ rfl ?_
    · simp [W1, e1, atI_lot hx.1 hx.2]
    · exact sL_of (by have := h.len _ (lotOf_mem hx.1 hx.2); omega)
    · intro i hi
      refine ⟨⟨[some (false, pD m ls), some (false, .int x), some (false, .int y), some (false, .int i)], w.st⟩, rfl, rfl, ?_, fun _ => rfl⟩
      simp [atI_lot hy.1 hy.2, inB_int, shp, e1]
  exact fnD_of (w' := W1) (sRet_of a1) rfl
omit h in
theorem at_mid {t : List Int} {i : Nat} (hi : i < t.length) : atI (t.map D.int) (i : Int) = some (.int (t.getD i 0)) := by
  rw [atI_map, atI_ofNat]
  simp [hi]
theorem law_steps_eq {t : List Int} (ht : TextOk ls t) (ht4 : t.length ≤ 4) (c : Int) (w : W) :
    ∃ outs : List (List Int), fnD 5 dn__law_steps [pD m ls, .int c, tu t] w = .ok (.lst (outs.map tu)) w ∧ ∀ o ∈ outs, Step ls c t o := by
  have e1 : atI [D.int (m : Int), tus ls] 1 = some (tus ls) := rfl
  let Z (f : List (List Int)) (s4 : Option (Bool × D)) : W := ⟨[some (false, pD m ls), some (false, .int c), some (false, tu t), some (true, .lst (f.map tu)), s4], w.st⟩
  have z0 : sOwn 3 (eLs lN) ⟨args 5 [pD m ls, .int c, tu t], w.st⟩ = .ok .nx (Z [] none) := by
    simp [Z]
  have app : ∀ (f : List (List Int)) (o : List Int), f.length ≤ 100 → appK (f.map tu) (tu o) = some (.non, (f ++ [o]).map tu) := by
    intro f o hf
    rw [appK_lt (by simp; omega)]
    simp
  obtain ⟨w', o1, o2⟩ := for_map (as := setF 4) (c := D.int) (mb := (sSeq (sIf (tT (eB ltD (M.bnd (eB ixD (eB ixD (eV 0) (eC (.int 1))) (eB ixD (eV 2) (eV 4))) lenF) (eV 1))) (sE (ownL 3 (eB addD (eSl (eV 2) oN (oI (eV 4))) (eSl (eV 2) (oI (eB addD (eV 4) (eC (.int 1)))) oN)) appK)) sPass) (sIf (tAn (tT (eB gtD (eV 4) (eC (.int 0)))) (tAn (tT (eB neD (eB ixD (eV 2) (eB subD (eV 4) (eC (.int 1)))) (eB ixD (eV 2) (eV 4)))) (tT (eB ltD (M.bnd (M.bnd (lC (eV 0) (lC (eB ixD (eV 2) (eB subD (eV 4) (eC (.int 1)))) (lC (eB ixD (eV 2) (eV 4)) lN))) (fnD 4 dn__law_common)) lenF) (eV 1))))) (sE (ownL 3 (eB addD (eB addD (eSl (eV 2) oN (oI (eB subD (eV 4) (eC (.int 1))))) (eTu (lC (eB ixD (eV 2) (eV 4)) (lC (eB ixD (eV 2) (eB subD (eV 4) (eC (.int 1)))) lN)))) (eSl (eV 2) (oI (eB addD (eV 4) (eC (.int 1)))) oN)) appK)) sPass)))
    (fun xs v => ∃ f s4, v = Z f s4 ∧ f.length + 2 * xs.length ≤ 8 ∧ (∀ x ∈ xs, 0 ≤ x ∧ x < t.length) ∧ ∀ o ∈ f, Step ls c t o)
    (by
      rintro x xs v ⟨f, s4, rfl, k1, k2, k3⟩
      obtain ⟨x0, x1⟩ := k2 x List.mem_cons_self
      obtain ⟨i, rfl⟩ := Int.eq_ofNat_of_zero_le x0
      have hi : i < t.length := by omega
      simp only [List.length_cons] at k1
      have hu : t.getD i 0 ∈ t := by simp [hi]
      obtain ⟨u0, u1⟩ := ht.rng _ hu
      have ei := Plain.split_at hi
      generalize hU : t.getD i 0 = u at *
      -- the first of the two
      have s1 : ∃ f', f'.length ≤ f.length + 1 ∧ (∀ o ∈ f', Step ls c t o) ∧ sIf (tT (eB ltD (M.bnd (eB ixD (eB ixD (eV 0) (eC (.int 1))) (eB ixD (eV 2) (eV 4))) lenF) (eV 1))) (sE (ownL 3 (eB addD (eSl (eV 2) oN (oI (eV 4))) (eSl (eV 2) (oI (eB addD (eV 4) (eC (.int 1)))) oN)) appK)) sPass (Z f (some (false, .int (i : Int)))) = .ok .nx (Z f' (some (false, .int (i : Int)))) := by
        have c1 : tT (eB ltD (M.bnd (eB ixD (eB ixD (eV 0) (eC (.int 1))) (eB ixD (eV 2) (eV 4))) lenF) (eV 1)) (Z f (some (false, .int (i : Int)))) = .ok (decide (((lotOf ls u).length : Int) < c)) (Z f (some (false, .int (i : Int)))) := by
          have := at_mid hi
          rw [hU] at this
          simp [Z, e1, this, atI_lot u0 u1, ltD]
        by_cases hq : ((lotOf ls u).length : Int) < c
        · rw [decide_eq_true hq] at c1
          have c2 : eB addD (eSl (eV 2) oN (oI (eV 4))) (eSl (eV 2) (oI (eB addD (eV 4) (eC (.int 1)))) oN) (Z f (some (false, .int (i : Int)))) = .ok (tu (t.take i ++ t.drop (i + 1))) (Z f (some (false, .int (i : Int)))) := by
            have g1 : eSl (eV 2) oN (oI (eV 4)) (Z f (some (false, .int (i : Int)))) = .ok (tu (t.take i)) (Z f (some (false, .int (i : Int)))) := by
              simp [Z, cutD_to]
            have g2 : eSl (eV 2) (oI (eB addD (eV 4) (eC (.int 1)))) oN (Z f (some (false, .int (i : Int)))) = .ok (tu (t.drop (i + 1))) (Z f (some (false, .int (i : Int)))) := by
              have : ((i : Int) + 1).toNat = i + 1 := by omega
              have h0 : (0 : Int) ≤ (i : Int) + 1 := by omega
              simp [Z, cutD_from _ h0, this]
            refine eB_of g1 g2 ?_
            rw [addD_u3, if_pos]
            · rw [← List.map_append]
              rfl
            · simp only [List.length_map, List.length_take, List.length_drop]
              exact sL_of (by omega)
          refine ⟨f ++ [t.take i ++ t.drop (i + 1)], by simp, ?_, sIf_tt c1 (sE_of (ownL_of (i := 3) (w2 := Z f (some (false, .int (i : Int)))) rfl c2 rfl (app f _ (by omega))))⟩
          intro o ho
          rcases List.mem_append.mp ho with ho | ho
          · exact k3 o ho
          · simp at ho
            subst ho
            exact .inl ⟨_, _, _, ei, rfl, hq⟩
        · rw [decide_eq_false hq] at c1
          exact ⟨f, by omega, k3, sIf_ff c1 rfl⟩
      obtain ⟨f1, f1l, f1s, s1⟩ := s1
      have s2 : ∃ f', f'.length ≤ f1.length + 1 ∧ (∀ o ∈ f', Step ls c t o) ∧ sIf (tAn (tT (eB gtD (eV 4) (eC (.int 0)))) (tAn (tT (eB neD (eB ixD (eV 2) (eB subD (eV 4) (eC (.int 1)))) (eB ixD (eV 2) (eV 4)))) (tT (eB ltD (M.bnd (M.bnd (lC (eV 0) (lC (eB ixD (eV 2) (eB subD (eV 4) (eC (.int 1)))) (lC (eB ixD (eV 2) (eV 4)) lN))) (fnD 4 dn__law_common)) lenF) (eV 1))))) (sE (ownL 3 (eB addD (eB addD (eSl (eV 2) oN (oI (eB subD (eV 4) (eC (.int 1))))) (eTu (lC (eB ixD (eV 2) (eV 4)) (lC (eB ixD (eV 2) (eB subD (eV 4) (eC (.int 1)))) lN)))) (eSl (eV 2) (oI (eB addD (eV 4) (eC (.int 1)))) oN)) appK)) sPass (Z f1 (some (false, .int (i : Int)))) = .ok .nx (Z f' (some (false, .int (i : Int)))) := by
        let W1 := Z f1 (some (false, .int (i : Int)))
        have c1 : tT (eB gtD (eV 4) (eC (.int 0))) W1 = .ok (decide ((i : Int) > 0)) W1 := tT_of (eB_of (show eV 4 W1 = .ok (.int (i : Int)) W1 from rfl) (show eC (.int 0) W1 = .ok (.int 0) W1 from rfl) rfl)
        by_cases hi0 : (i : Int) > 0
        · rw [decide_eq_true hi0] at c1
          obtain ⟨j, rfl⟩ : ∃ j, i = j + 1 := ⟨i - 1, by omega⟩
          have hj : j < t.length := by omega
          have ej : (((j + 1 : Nat) : Int)) - 1 = (j : Int) := by omega
          have hv : t.getD j 0 ∈ t := by simp [hj]
          obtain ⟨v0, v1⟩ := ht.rng _ hv
          have esp : t = t.take j ++ t.getD j 0 :: t.getD (j + 1) 0 :: t.drop (j + 1 + 1) := by
            have q1 := Plain.split_at hj
            have q2 : t.drop (j + 1) = t.getD (j + 1) 0 :: t.drop (j + 1 + 1) := by
              have : t.getD (j + 1) 0 = t[j + 1] := by simp [hi]
              rw [this, List.getElem_cons_drop]
            rw [q2] at q1
            exact q1
          rw [hU] at esp
          generalize hV : t.getD j 0 = y at *
          have g4 : eB ixD (eV 2) (eV 4) W1 = .ok (.int u) W1 := by
            have := at_mid hi
            rw [hU] at this
            exact eB_of (show eV 2 W1 = .ok (tu t) W1 from rfl) (show eV 4 W1 = .ok (.int ((j + 1 : Nat) : Int)) W1 from rfl) (by rw [ixD_u0, this]; rfl)
          have g5 : eB subD (eV 4) (eC (.int 1)) W1 = .ok (.int (j : Int)) W1 := by
            refine eB_of (show eV 4 W1 = .ok (.int ((j + 1 : Nat) : Int)) W1 from rfl) (show eC (.int 1) W1 = .ok (.int 1) W1 from rfl) ?_
            rw [subD_u, i2_u0, ej]
            rfl
          have g6 : eB ixD (eV 2) (eB subD (eV 4) (eC (.int 1))) W1 = .ok (.int y) W1 := by
            have := at_mid hj
            rw [hV] at this
            exact eB_of (show eV 2 W1 = .ok (tu t) W1 from rfl) g5 (by rw [ixD_u0, this]; rfl)
          have c2 : tT (eB neD (eB ixD (eV 2) (eB subD (eV 4) (eC (.int 1)))) (eB ixD (eV 2) (eV 4))) W1 = .ok (!decide (y = u)) W1 := by
            refine tT_of (eB_of g6 g4 ?_)
            rw [neD_u, eqB_int]
            rfl
          by_cases hyu : y = u
          · rw [decide_eq_true hyu] at c2
            exact ⟨f1, by omega, f1s, sIf_ff (tAn_tt c1 (tAn_ff c2)) rfl⟩
          · rw [decide_eq_false hyu] at c2
            have c3 : tT (eB ltD (M.bnd (M.bnd (lC (eV 0) (lC (eB ixD (eV 2) (eB subD (eV 4) (eC (.int 1)))) (lC (eB ixD (eV 2) (eV 4)) lN))) (fnD 4 dn__law_common)) lenF) (eV 1)) W1 = .ok (decide (((com ls y u).length : Int) < c)) W1 := by
              have g7 : lenF (.lst ((com ls y u).map D.int)) W1 = .ok (.int ((com ls y u).length : Int)) W1 := by simp
              exact tT_of (eB_of (bnd_of (bnd_of (lC_of (show eV 0 W1 = .ok (pD m ls) W1 from rfl) (lC_of g6 (lC_of g4 lN_of))) (law_common_eq h ⟨v0, v1⟩ ⟨u0, u1⟩ W1)) g7) (show eV 1 W1 = .ok (.int c) W1 from rfl) rfl)
            by_cases hq : ((com ls y u).length : Int) < c
            · rw [decide_eq_true hq] at c3
              have g8 : eSl (eV 2) oN (oI (eB subD (eV 4) (eC (.int 1)))) W1 = .ok (tu (t.take j)) W1 := by
                rw [eSl_u, bnd_ap, show eV 2 W1 = .ok (tu t) W1 from rfl, andThen_ok, oN_u, bnd_ap, ret_ap, andThen_ok, oI_u, bnd_ap, bnd_ap, g5, andThen_ok]
                simp [cutD_to]
              have g9 : eSl (eV 2) (oI (eB addD (eV 4) (eC (.int 1)))) oN W1 = .ok (tu (t.drop (j + 1 + 1))) W1 := by
                have : (((j + 1 : Nat) : Int) + 1).toNat = j + 1 + 1 := by omega
                have h0 : (0 : Int) ≤ ((j + 1 : Nat) : Int) + 1 := by omega
                have q0 : eB addD (eV 4) (eC (.int 1)) W1 = .ok (.int (((j + 1 : Nat) : Int) + 1)) W1 := rfl
                rw [eSl_u, bnd_ap, show eV 2 W1 = .ok (tu t) W1 from rfl, andThen_ok, oN_u, oI_u, bnd_ap, bnd_ap, q0, andThen_ok]
                simp only [ret_ap, andThen_ok, bnd_ap, slD_u, cutD_from _ h0, this, ← List.map_drop]
              have g10 : eTu (lC (eB ixD (eV 2) (eV 4)) (lC (eB ixD (eV 2) (eB subD (eV 4) (eC (.int 1)))) lN)) W1 = .ok (tu [u, y]) W1 := by
                rw [eTu_u, bnd_ap, lC_of g4 (lC_of g6 lN_of), andThen_ok]
                simp
                rfl
              have c4 : eB addD (eB addD (eSl (eV 2) oN (oI (eB subD (eV 4) (eC (.int 1))))) (eTu (lC (eB ixD (eV 2) (eV 4)) (lC (eB ixD (eV 2) (eB subD (eV 4) (eC (.int 1)))) lN)))) (eSl (eV 2) (oI (eB addD (eV 4) (eC (.int 1)))) oN) W1 = .ok (tu (t.take j ++ u :: y :: t.drop (j + 1 + 1))) W1 := by
                have q1 : eB addD (eSl (eV 2) oN (oI (eB subD (eV 4) (eC (.int 1))))) (eTu (lC (eB ixD (eV 2) (eV 4)) (lC (eB ixD (eV 2) (eB subD (eV 4) (eC (.int 1)))) lN))) W1 = .ok (tu (t.take j ++ [u, y])) W1 := by
                  refine eB_of g8 g10 ?_
                  rw [addD_u3, if_pos]
                  · rw [← List.map_append]
                    rfl
                  · simp only [List.length_map, List.length_take, List.length_cons, List.length_nil]
                    exact sL_of (by omega)
                refine eB_of q1 g9 ?_
                rw [addD_u3, if_pos]
                · rw [← List.map_append, List.append_assoc]
                  rfl
                · simp only [List.length_map, List.length_append, List.length_take, List.length_drop, List.length_cons, List.length_nil]
                  exact sL_of (by omega)
              refine ⟨f1 ++ [t.take j ++ u :: y :: t.drop (j + 1 + 1)], by simp, ?_, sIf_tt (tAn_tt c1 (tAn_tt c2 c3)) (sE_of (ownL_of (i := 3) (w2 := W1) rfl c4 rfl (app f1 _ (by omega))))⟩
              intro o ho
              rcases List.mem_append.mp ho with ho | ho
              · exact f1s o ho
              · simp at ho
                subst ho
                exact .inr ⟨_, _, _, _, esp, rfl, hyu, hq⟩
            · rw [decide_eq_false hq] at c3
              exact ⟨f1, by omega, f1s, sIf_ff (tAn_tt c1 (tAn_tt c2 c3)) rfl⟩
        · rw [decide_eq_false hi0] at c1
          exact ⟨f1, by omega, f1s, sIf_ff (tAn_ff c1) rfl⟩
      obtain ⟨f2, f2l, f2s, s2⟩ := s2
      exact ⟨Z f (some (false, .int (i : Int))), .nx, _, rfl, sSeq_nx s1 s2, .inl rfl, f2, _, rfl, by omega, fun x hx => k2 x (List.mem_cons_of_mem _ hx), f2s⟩)
    (mrs t.length) (Z [] none) ⟨[], none, rfl, by rw [mrs_len]; simp; omega, fun x hx => mem_mrs.mp hx, by simp⟩
  obtain ⟨f, s4, rfl, _, _, k3⟩ := o2
  have a1 : lC (M.bnd (eV 2) lenF) lN (Z [] none) = .ok [.int (t.length : Int)] (Z [] none) := by simp [Z]
  exact ⟨f, fnD_of (w' := ⟨[some (false, pD m ls), some (false, .int c), some (false, tu t), some (false, .lst (f.map tu)), s4], w.st⟩) (sSeq_nx z0 (sSeq_nx (sFor_ap (rg_of a1 (by omega)) o1) rfl)) rfl, k3⟩
/-! ### the shared post -/
theorem law_shared_eq {t u : List Int} (ht : TextOk ls t) (hu : TextOk ls u) {l : Nat} (hl : l ≤ 7) (k : Int) (w : W) :
    ∃ (ts : List T3) (n : Nat), fnD 12 dn__law_shared [pD m ls, .int (l : Int), .int k, tu t, tu u] w = .ok (tus (ts.map (·.2.2))) w ∧ Sh l ts n ∧ ts.map (fun p => (p.1, p.2.1)) = (rows m ls t).zip (rows m ls u) := by
  have h7 := h.m7
  let Z (f : List (List Int)) (n : Nat) (s9 s10 s11 : Option (Bool × D)) : W := ⟨[some (false, pD m ls), some (false, .int (l : Int)), some (false, .int k), some (false, tu t), some (false, tu u), some (false, tus (rows m ls t)), some (false, tus (rows m ls u)), some (true, .lst (f.map tu)), some (false, .int (n : Int)), s9, s10, s11], w.st⟩
  let W0 : W := ⟨args 12 [pD m ls, .int (l : Int), .int k, tu t, tu u], w.st⟩
  let W1 : W := ⟨[some (false, pD m ls), some (false, .int (l : Int)), some (false, .int k), some (false, tu t), some (false, tu u), some (false, tus (rows m ls t)), some (false, tus (rows m ls u)), none, none, none, none, none], w.st⟩
  have z0 : sPair false false 5 6 (M.bnd (lC (eV 0) (lC (eV 3) lN)) (fnD 5 dn__law_rows)) (M.bnd (lC (eV 0) (lC (eV 4) lN)) (fnD 5 dn__law_rows)) W0 = .ok .nx W1 := by
    have a1 : M.bnd (lC (eV 0) (lC (eV 3) lN)) (fnD 5 dn__law_rows) W0 = .ok (tus (rows m ls t)) W0 := bnd_of (a := [pD m ls, tu t]) (w1 := W0) rfl (law_rows_eq h ht W0)
    have a2 : M.bnd (lC (eV 0) (lC (eV 4) lN)) (fnD 5 dn__law_rows) W0 = .ok (tus (rows m ls u)) W0 := bnd_of (a := [pD m ls, tu u]) (w1 := W0) rfl (law_rows_eq h hu W0)
    rw [sPair_u, bnd_ap, a1, andThen_ok, bnd_ap, a2, andThen_ok]
    rfl
  have z1 : sPair true false 7 8 (eLs lN) (eC (.int 0)) W1 = .ok .nx (Z [] 0 none none none) := by
    simp [Z, W1]
  have rowlen : ∀ (t : List Int) x, TextOk ls t → x ∈ rows m ls t → x.length ≤ 40 := by
    intro t x ht hx
    simp only [rows, List.mem_map] at hx
    obtain ⟨i, _, rfl⟩ := hx
    exact Nat.le_trans (List.length_filter_le ..) ht.len
  obtain ⟨w', o1, o2⟩ := for_map (as := tgT (tgC (setF 9) (tgC (setF 10) tgN)) 2) (c := fun p : List Int × List Int => .tup [tu p.1, tu p.2])
    (mb := (sIf (tT (eB eqD (eV 9) (eV 10))) (sE (ownL 7 (eV 9) appK)) (sSeq (sSet 11 (eC (.int 0))) (sSeq (whileL (tAn (tT (eB eqD (eSl (eV 9) oN (oI (eB addD (eV 11) (eC (.int 1))))) (eSl (eV 10) oN (oI (eB addD (eV 11) (eC (.int 1))))))) (tT (eB ltD (eV 11) (M.bnd (lC (M.bnd (eV 9) lenF) (lC (M.bnd (eV 10) lenF) lN)) minF)))) (sSet 11 (eB addD (eV 11) (eC (.int 1)))) 64) (sSeq (sE (ownL 7 (eIf (tT (eB ltD (eV 8) (eB mulD (eC (.int 2)) (eV 1)))) (eB ixD (eLs (lC (eV 10) (lC (eV 9) lN))) (M.bnd (eB geD (eV 8) (eV 1)) intF)) (eSl (eV 9) oN (oI (eV 11)))) appK)) (sSet 8 (eB addD (eV 8) (eC (.int 1)))))))))
    (fun xs v => ∃ (ts : List T3) (n : Nat) (s9 s10 s11 : Option (Bool × D)), v = Z (ts.map (·.2.2)) n s9 s10 s11 ∧ Sh l ts n ∧ n ≤ ts.length ∧ ts.length + xs.length ≤ 7 ∧ ts.map (fun p => (p.1, p.2.1)) ++ xs = (rows m ls t).zip (rows m ls u))
    (by
      rintro ⟨a, b⟩ xs v ⟨ts, n, s9, s10, s11, rfl, k1, k2, k3, k4⟩
      simp only [List.length_cons] at k3
      have hmem : (a, b) ∈ (rows m ls t).zip (rows m ls u) := by rw [← k4]; simp
      have ha : a.length ≤ 40 := rowlen t a ht (List.of_mem_zip hmem).1
      have hb : b.length ≤ 40 := rowlen u b hu (List.of_mem_zip hmem).2
      let Y (s11 : Option (Bool × D)) : W := Z (ts.map (·.2.2)) n (some (false, tu a)) (some (false, tu b)) s11
      have app : ∀ o : List Int, appK ((ts.map (·.2.2)).map tu) (tu o) = some (.non, (ts.map (·.2.2) ++ [o]).map tu) := by
        intro o
        rw [appK_lt (by simp; omega)]
        simp
      have c1 : tT (eB eqD (eV 9) (eV 10)) (Y s11) = .ok (decide (a = b)) (Y s11) := tT_of (eB_of (show eV 9 (Y s11) = .ok (tu a) (Y s11) from rfl) (show eV 10 (Y s11) = .ok (tu b) (Y s11) from rfl) (eqD_tu a b _))
      by_cases hab : a = b
      · rw [decide_eq_true hab] at c1
        subst hab
        have c2 := sE_of (ownL_of (i := 7) (w := Y s11) (w2 := Y s11) rfl (show eV 9 (Y s11) = .ok (tu a) (Y s11) from rfl) rfl (app a))
        refine ⟨Y s11, .nx, Z ((ts ++ [(a, a, a)]).map (·.2.2)) n (some (false, tu a)) (some (false, tu a)) s11, rfl, sIf_tt c1 ?_, .inl rfl, ts ++ [(a, a, a)], n, _, _, _, rfl, .same k1, by simp; omega, by simp; omega, ?_⟩
        · rw [c2]
          simp [Y, Z]
        · rw [← k4]
          simp
      · rw [decide_eq_false hab] at c1
        -- the common beginning
        obtain ⟨w', i1, s, i2, i3⟩ := while_inv (c := (tAn (tT (eB eqD (eSl (eV 9) oN (oI (eB addD (eV 11) (eC (.int 1))))) (eSl (eV 10) oN (oI (eB addD (eV 11) (eC (.int 1))))))) (tT (eB ltD (eV 11) (M.bnd (lC (M.bnd (eV 9) lenF) (lC (M.bnd (eV 10) lenF) lN)) minF))))) (mb := (sSet 11 (eB addD (eV 11) (eC (.int 1)))))
          (fun r v => ∃ s : Nat, r + s = min a.length b.length ∧ v = Y (some (false, .int (s : Int))) ∧ a.take s = b.take s)
          (fun v => ∃ s : Nat, v = Y (some (false, .int (s : Int))) ∧ a.take s = b.take s)
          (by
            rintro r v ⟨s, e1, rfl, e2⟩
            let V := Y (some (false, .int (s : Int)))
            have es : (((s : Int) + 1).toNat) = s + 1 := by omega
            have e0 : (0 : Int) ≤ (s : Int) + 1 := by omega
            have p0 : eB addD (eV 11) (eC (.int 1)) V = .ok (.int ((s : Int) + 1)) V := rfl
            have p1 : eSl (eV 9) oN (oI (eB addD (eV 11) (eC (.int 1)))) V = .ok (tu (a.take (s + 1))) V := by
              have q := eSl_to (show eV 9 V = .ok (tu a) V from rfl) (oI_of p0) e0
              rw [es, ← List.map_take] at q
              exact q
            have p2 : eSl (eV 10) oN (oI (eB addD (eV 11) (eC (.int 1)))) V = .ok (tu (b.take (s + 1))) V := by
              have q := eSl_to (show eV 10 V = .ok (tu b) V from rfl) (oI_of p0) e0
              rw [es, ← List.map_take] at q
              exact q
            have p3 := tT_of (eB_of p1 p2 (eqD_tu _ _ V))
            have p4 : M.bnd (lC (M.bnd (eV 9) lenF) (lC (M.bnd (eV 10) lenF) lN)) minF V = .ok (.int (if (b.length : Int) < (a.length : Int) then (b.length : Int) else (a.length : Int))) V := by
              have q1 : M.bnd (eV 9) lenF V = .ok (.int (a.length : Int)) V := by
                rw [bnd_ap, show eV 9 V = .ok (tu a) V from rfl, andThen_ok]
                simp
              have q2 : M.bnd (eV 10) lenF V = .ok (.int (b.length : Int)) V := by
                rw [bnd_ap, show eV 10 V = .ok (tu b) V from rfl, andThen_ok]
                simp
              exact bnd_of (lC_of q1 (lC_of q2 lN_of)) rfl
            have p5 : tT (eB ltD (eV 11) (M.bnd (lC (M.bnd (eV 9) lenF) (lC (M.bnd (eV 10) lenF) lN)) minF)) V = .ok (decide ((s : Int) < (if (b.length : Int) < (a.length : Int) then (b.length : Int) else (a.length : Int)))) V :=
              tT_of (eB_of (show eV 11 V = .ok (.int (s : Int)) V from rfl) p4 rfl)
            by_cases g : a.take (s + 1) = b.take (s + 1)
            · rw [decide_eq_true g] at p3
              by_cases g2 : s < min a.length b.length
              · have g3 : (s : Int) < (if (b.length : Int) < (a.length : Int) then (b.length : Int) else (a.length : Int)) := by
                  split <;> omega
                rw [decide_eq_true g3] at p5
                have ec : ((s : Int) + 1) = ((s + 1 : Nat) : Int) := by omega
                rw [ec] at p0
                exact .inl ⟨V, .nx, Y (some (false, .int ((s + 1 : Nat) : Int))), r - 1, tAn_tt p3 p5, sSet_of p0 rfl, .inl rfl, by omega, s + 1, by omega, rfl, g⟩
              · have g3 : ¬ (s : Int) < (if (b.length : Int) < (a.length : Int) then (b.length : Int) else (a.length : Int)) := by
                  split <;> omega
                rw [decide_eq_false g3] at p5
                exact .inr ⟨V, tAn_tt p3 p5, s, rfl, e2⟩
            · rw [decide_eq_false g] at p3
              exact .inr ⟨V, tAn_ff p3, s, rfl, e2⟩)
          64 (min a.length b.length) (Y (some (false, .int 0))) (by omega) ⟨0, by omega, rfl, rfl⟩
        subst i2
        have d1 : sSet 11 (eC (.int 0)) (Y s11) = .ok .nx (Y (some (false, .int 0))) := rfl
        let V := Y (some (false, .int (s : Int)))
        have hs : a.take s <+: a ∧ a.take s <+: b := ⟨List.take_prefix .., by rw [i3]; exact List.take_prefix ..⟩
        have m1 : eB mulD (eC (.int 2)) (eV 1) V = .ok (.int (2 * (l : Int))) V := by
          refine eB_of (show eC (.int 2) V = .ok (.int 2) V from rfl) (show eV 1 V = .ok (.int (l : Int)) V from rfl) ?_
          rw [mulD_u0, if_pos (.inl (by decide))]
          rfl
        have m2 : tT (eB ltD (eV 8) (eB mulD (eC (.int 2)) (eV 1))) V = .ok (decide ((n : Int) < 2 * (l : Int))) V := tT_of (eB_of (show eV 8 V = .ok (.int (n : Int)) V from rfl) m1 rfl)
        have m3 : M.bnd (eB geD (eV 8) (eV 1)) intF V = .ok (.int (if decide ((n : Int) ≥ (l : Int)) then 1 else 0)) V := bnd_of (eB_of (show eV 8 V = .ok (.int (n : Int)) V from rfl) (show eV 1 V = .ok (.int (l : Int)) V from rfl) rfl) rfl
        have m4 : eLs (lC (eV 10) (lC (eV 9) lN)) V = .ok (.lst [tu b, tu a]) V := by
          rw [eLs_u, bnd_ap, show lC (eV 10) (lC (eV 9) lN) V = .ok [tu b, tu a] V from rfl, andThen_ok, if_pos (show [tu b, tu a].length ≤ sizeLine from sL2)]
          rfl
        have m5 : eSl (eV 9) oN (oI (eV 11)) V = .ok (tu (a.take s)) V := by
          have q := eSl_to (show eV 9 V = .ok (tu a) V from rfl) (oI_of (show eV 11 V = .ok (.int (s : Int)) V from rfl)) (Int.natCast_nonneg s)
          rw [Int.toNat_natCast, ← List.map_take] at q
          exact q
        have val : ∃ f : List Int, eIf (tT (eB ltD (eV 8) (eB mulD (eC (.int 2)) (eV 1)))) (eB ixD (eLs (lC (eV 10) (lC (eV 9) lN))) (M.bnd (eB geD (eV 8) (eV 1)) intF)) (eSl (eV 9) oN (oI (eV 11))) V = .ok (tu f) V ∧ (n < l → f = b) ∧ (l ≤ n → n < 2 * l → f = a) ∧ (2 * l ≤ n → f <+: a ∧ f <+: b) := by
          by_cases g1 : n < 2 * l
          · rw [decide_eq_true (by omega)] at m2
            by_cases g2 : l ≤ n
            · rw [decide_eq_true (by omega)] at m3
              refine ⟨a, ?_, by omega, fun _ _ => rfl, by omega⟩
              rw [eIf_u, bnd_ap, m2, andThen_ok, if_pos rfl]
              exact eB_of m4 m3 rfl
            · rw [decide_eq_false (by omega)] at m3
              refine ⟨b, ?_, fun _ => rfl, by omega, by omega⟩
              rw [eIf_u, bnd_ap, m2, andThen_ok, if_pos rfl]
              exact eB_of m4 m3 rfl
          · rw [decide_eq_false (by omega)] at m2
            refine ⟨a.take s, ?_, by omega, by omega, fun _ => hs⟩
            rw [eIf_u, bnd_ap, m2, andThen_ok, if_neg Bool.false_ne_true]
            exact m5
        obtain ⟨f, v1, v2, v3, v4⟩ := val
        have en : (n : Int) + 1 = ((n + 1 : Nat) : Int) := by omega
        have d2 := sE_of (ownL_of (i := 7) (w := V) (w2 := V) rfl v1 rfl (app f))
        have d3 : sSet 8 (eB addD (eV 8) (eC (.int 1))) (Z (ts.map (·.2.2) ++ [f]) n (some (false, tu a)) (some (false, tu b)) (some (false, .int (s : Int)))) = .ok .nx (Z (ts.map (·.2.2) ++ [f]) (n + 1) (some (false, tu a)) (some (false, tu b)) (some (false, .int (s : Int)))) := by
          have q : eB addD (eV 8) (eC (.int 1)) (Z (ts.map (·.2.2) ++ [f]) n (some (false, tu a)) (some (false, tu b)) (some (false, .int (s : Int)))) = .ok (.int ((n : Int) + 1)) (Z (ts.map (·.2.2) ++ [f]) n (some (false, tu a)) (some (false, tu b)) (some (false, .int (s : Int)))) := rfl
          rw [en] at q
          exact sSet_of q rfl
        refine ⟨Y s11, .nx, Z ((ts ++ [(a, b, f)]).map (·.2.2)) (n + 1) (some (false, tu a)) (some (false, tu b)) (some (false, .int (s : Int))), rfl, sIf_ff c1 (sSeq_nx d1 (sSeq_nx i1 (sSeq_nx d2 ?_))), .inl rfl, ts ++ [(a, b, f)], n + 1, _, _, _, rfl, .diff k1 hab v2 v3 v4, by simp; omega, by simp; omega, ?_⟩
        · have e : (ts ++ [(a, b, f)]).map (·.2.2) = ts.map (·.2.2) ++ [f] := by simp
          rw [e]
          exact d3
        · rw [← k4]
          simp)
    ((rows m ls t).zip (rows m ls u)) (Z [] 0 none none none) ⟨[], 0, none, none, none, rfl, .nil, by simp, by simp [rows, mrs_len]; omega, rfl⟩
  obtain ⟨ts, n, s9, s10, s11, rfl, k1, _, _, k4⟩ := o2
  refine ⟨ts, n, ?_, k1, by simpa using k4⟩
  have hz : iRg zpD (lC (eV 5) (lC (eV 6) lN)) (Z [] 0 none none none) = .ok (((rows m ls t).zip (rows m ls u)).map fun p : List Int × List Int => .tup [tu p.1, tu p.2]) (Z [] 0 none none none) := by
    refine iRg_eq (ds := [tus (rows m ls t), tus (rows m ls u)]) rfl ?_
    rw [zpD_u1, zipP_map]
  exact fnD_of (w' := Z (ts.map (·.2.2)) n s9 s10 s11) (sSeq_nx z0 (sSeq_nx z1 (sSeq_nx (sFor_ap hz o1) rfl))) rfl
end
end LawT


set_option Elab.async false
set_option linter.all false
set_option maxRecDepth 100000
set_option maxHeartbeats 400000
namespace LawT
open PySem L2 Dl Plain
section
variable {m : Nat} {ls : List (List Int)} (h : PlanOk m ls)
include h
theorem first_sig {c : Int} {s t : List Int} (hs : Sig (dp ls c) s t) : firstP ls c s = firstP ls c t :=
  nf_sig (dp_sym h.inc) 64 _ _ (fun x hx => (List.mem_filter.mp hx).2) (fun x hx => (List.mem_filter.mp hx).2) (sig_left (dp_heard h.inc) hs)
theorem joined_alike {l k : Nat} {s t : List Int} (hj : JF (((rows m ls s).zip (rows m ls t)).countP isOne : Nat) (((rows m ls s).zip (rows m ls t)).countP isOther : Nat) (((rows m ls s).zip (rows m ls t)).countP isRest : Nat) l k) :
    firstP ls (2 * (l : Int) + k + 1) s = firstP ls (2 * (l : Int) + k + 1) t := by
  refine first_sig h fun x y d => ?_
  apply Classical.byContradiction
  intro hne
  have hs := joined_sum (n := m) h.inc h.rng s t x y hne
  simp only [dp, decide_eq_true_eq] at d
  obtain ⟨a, b, both, j1, j2, j3, j4, j5, j6, j7, j8, j9⟩ := hj
  omega
theorem step_sig {c : Int} {t o : List Int} (hs : Step ls c t o) : Sig (dp ls c) t o := by
  rcases hs with ⟨p, x, q, rfl, rfl, hx⟩ | ⟨p, x, y, q, rfl, rfl, hne, hx⟩
  · exact sig_drop h.inc hx
  · exact sig_swap h.inc hne hx
omit h in
theorem step_dif {c : Int} {t o : List Int} (hs : Step ls c t o) : (((rows m ls t).zip (rows m ls o)).countP dif : Int) < c := by
  rcases hs with ⟨p, x, q, rfl, rfl, hx⟩ | ⟨p, x, y, q, rfl, rfl, hne, hx⟩
  · have := dif_drop (ls := ls) (n := m) (p := p) (q := q) (x := x)
    omega
  · have := dif_swap (ls := ls) (n := m) (p := p) (q := q) (x := x) (y := y)
    omega
omit h in
theorem step_ok {c : Int} {t o : List Int} (ht : TextOk ls t) (hs : Step ls c t o) : TextOk ls o := by
  rcases hs with ⟨p, x, q, rfl, rfl, hx⟩ | ⟨p, x, y, q, rfl, rfl, hne, hx⟩
  · refine ⟨by have := ht.len; simp at this ⊢; omega, fun z hz => ht.rng z ?_⟩
    simp at hz ⊢
    rcases hz with hz | hz <;> simp [hz]
  · refine ⟨by have := ht.len; simp at this ⊢; omega, fun z hz => ht.rng z ?_⟩
    simp at hz ⊢
    rcases hz with hz | hz | hz | hz <;> simp [hz]
omit h in
theorem Sh.parts {l : Nat} {ts : List T3} {n : Nat} (hs : Sh l ts n) : ∀ p ∈ ts, p.2.2 = p.1 ∨ p.2.2 = p.2.1 ∨ p.2.2 <+: p.1 := by
  induction hs with
  | nil => simp
  | same hs ih =>
    intro p hp
    rcases List.mem_append.mp hp with hp | hp
    · exact ih p hp
    · simp at hp
      subst hp
      exact .inl rfl
  | @diff ts n F S f hs hne ha hb hc ih =>
    intro p hp
    rcases List.mem_append.mp hp with hp | hp
    · exact ih p hp
    · simp at hp
      subst hp
      simp only
      rcases Nat.lt_or_ge n l with g | g
      · exact .inr (.inl (ha g))
      · rcases Nat.lt_or_ge n (2 * l) with g2 | g2
        · exact .inl (hb g g2)
        · exact .inr (.inr (hc g2).1)
omit h in
theorem row_ok {t : List Int} (ht : TextOk ls t) (i : Int) : RowOk ls i (row ls t i) := by
  refine ⟨⟨Nat.le_trans (List.length_filter_le ..) ht.len, fun x hx => ht.rng x (List.mem_filter.mp hx).1⟩, fun z hz => ?_⟩
  simpa using (List.mem_filter.mp hz).2
omit h in
theorem RowOk.pre {i : Int} {r f : List Int} (hr : RowOk ls i r) (hp : f <+: r) : RowOk ls i f :=
  ⟨⟨Nat.le_trans hp.length_le hr.1.len, fun x hx => hr.1.rng x (hp.subset hx)⟩, fun z hz => hr.2 z (hp.subset hz)⟩
omit h in
theorem rows_get {t : List Int} {i : Nat} {r : List Int} (hg : (rows m ls t)[i]? = some r) : r = row ls t i := by
  simp only [rows, mrs, List.map_map, List.getElem?_map, Option.map_eq_some_iff] at hg
  obtain ⟨j, h1, rfl⟩ := hg
  have : j = i := by
    have := List.getElem?_eq_some_iff.mp h1
    obtain ⟨h2, h3⟩ := this
    simpa using h3.symm
  subst this
  rfl
theorem shared_both {l k : Nat} (hl : l ≤ 7) (hk : k ≤ 7) {t o : List Int} (ht : TextOk ls t) (ho : TextOk ls o) (hd : (((rows m ls t).zip (rows m ls o)).countP dif : Int) < 2 * (l : Int) + k + 1) {ts : List T3} {n : Nat} (hs : Sh l ts n)
    (hz : ts.map (fun p => (p.1, p.2.1)) = (rows m ls t).zip (rows m ls o)) (w : W) :
    fnD 5 dn_can_come [pD m ls, .int (l : Int), .int (k : Int), tu t, tus (ts.map (·.2.2))] w = .ok (.bl true) w ∧ fnD 5 dn_can_come [pD m ls, .int (l : Int), .int (k : Int), tu o, tus (ts.map (·.2.2))] w = .ok (.bl true) w := by
  obtain ⟨q1, q2, q3, q4, q5, q6, q7⟩ := hs.sum
  have hn : (n : Int) < 2 * (l : Int) + k + 1 := by
    rw [← q1]
    rw [← hz, List.countP_map] at hd
    exact hd
  have hr1 : rows m ls t = ts.map (·.1) := by
    have := congrArg (List.map Prod.fst) hz
    rw [List.map_fst_zip (by simp [rows])] at this
    simpa [Function.comp_def] using this.symm
  have hr2 : rows m ls o = ts.map (·.2.1) := by
    have := congrArg (List.map Prod.snd) hz
    rw [List.map_snd_zip (by simp [rows])] at this
    simpa [Function.comp_def] using this.symm
  have hf : ∀ (i : Nat) f, (ts.map (·.2.2))[i]? = some f → RowOk ls i f := by
    intro i f hg
    simp only [List.getElem?_map, Option.map_eq_some_iff] at hg
    obtain ⟨p, hp, rfl⟩ := hg
    have e1 : p.1 = row ls t i := rows_get (m := m) (by rw [hr1, List.getElem?_map, hp]; rfl)
    have e2 : p.2.1 = row ls o i := rows_get (m := m) (by rw [hr2, List.getElem?_map, hp]; rfl)
    rcases Sh.parts hs p (List.mem_of_getElem? hp) with e | e | e
    · rw [e, e1]
      exact row_ok ht _
    · rw [e, e2]
      exact row_ok ho _
    · rw [e1] at e
      exact (row_ok ht _).pre e
  have g1 := can_come_eq h ht (l := l) (k := k) (by omega) (by omega) (ts.map fun p => (p.1, p.2.2)) (by rw [hr1]; simp [Function.comp_def]) (by simpa [Function.comp_def] using hf) w
  have g2 := can_come_eq h ho (l := l) (k := k) (by omega) (by omega) (ts.map fun p => (p.2.1, p.2.2)) (by rw [hr2]; simp [Function.comp_def]) (by simpa [Function.comp_def] using hf) w
  have c1 : cW (ts.map fun p => (p.1, p.2.2)) = ts.countP w1 := by
    rw [cW, List.countP_map]
    rfl
  have c2 : cS (ts.map fun p => (p.1, p.2.2)) = ts.countP s1 := by
    rw [cS, List.countP_map]
    rfl
  have c3 : cW (ts.map fun p => (p.2.1, p.2.2)) = ts.countP w2 := by
    rw [cW, List.countP_map]
    rfl
  have c4 : cS (ts.map fun p => (p.2.1, p.2.2)) = ts.countP s2 := by
    rw [cS, List.countP_map]
    rfl
  rw [c1, c2, List.map_map] at g1
  rw [c3, c4, List.map_map] at g2
  rw [decide_eq_true (by split <;> omega)] at g1 g2
  exact ⟨g1, g2⟩
end
theorem good (ns : List Int) : ∃ w', dn_law ⟨args 15 [.scr ns], []⟩ = .ok (.rt (.bl true)) w' := by
  -- 1, 2: the row, the letters
  let Z1 : List (Option (Bool × D)) := [some (false, .scr ns), some (false, .ob 0), none, none, none, none, none, none, none, none, none, none, none, none, none]
  have a1 : sNew 1 (eLs (lC (eV 0) (lC (eC (.int 0)) (lC (eC (.int 912)) (lC (eC (.int 0)) lN))))) ⟨args 15 [.scr ns], []⟩ = .ok .nx ⟨Z1, stS ns 0 912 0⟩ := by
    simp [Z1, stS]
  obtain ⟨k1, st1, t1, r1, p1, p1'⟩ := taken_eq (w := ⟨Z1, stS ns 0 912 0⟩) ⟨_, _, _, rfl, by omega⟩ (many := 3) (by omega) (by omega)
  obtain ⟨n1, rfl⟩ := Int.eq_ofNat_of_zero_le p1
  obtain ⟨lt, hlt⟩ : ∃ lt : Nat, lt = 1 + n1 := ⟨_, rfl⟩
  have elt : (1 : Int) + (n1 : Int) = (lt : Int) := by omega
  let Z2 : List (Option (Bool × D)) := [some (false, .scr ns), some (false, .ob 0), some (false, .int (lt : Int)), none, none, none, none, none, none, none, none, none, none, none, none]
  have a2 : sSet 2 (eB addD (eC (.int 1)) (M.bnd (lC (eV 1) (lC (eC (.int 3)) lN)) (fnD 4 dn__law_taken))) ⟨Z1, stS ns 0 912 0⟩ = .ok .nx ⟨Z2, st1⟩ := by
    have q : eB addD (eC (.int 1)) (M.bnd (lC (eV 1) (lC (eC (.int 3)) lN)) (fnD 4 dn__law_taken)) ⟨Z1, stS ns 0 912 0⟩ = .ok (.int (1 + (n1 : Int))) ⟨Z1, st1⟩ :=
      eB_of (show eC (.int 1) ⟨Z1, stS ns 0 912 0⟩ = .ok (.int 1) ⟨Z1, stS ns 0 912 0⟩ from rfl) (bnd_of (a := [.ob 0, .int 3]) (w1 := ⟨Z1, stS ns 0 912 0⟩) rfl t1) rfl
    rw [elt] at q
    exact sSet_of q rfl
  -- 3: the plan, liars, lost
  obtain ⟨m, ls, st2, t2, r2, hP, hm5, hll⟩ := law_plan_eq (w := ⟨Z2, st1⟩) r1 (lt := lt) (by omega) (by omega)
  obtain ⟨k3, st3, t3, r3, p3, p3'⟩ := taken_eq (w := ⟨Z2, st2⟩) r2 (many := 3) (by omega) (by omega)
  obtain ⟨l, rfl⟩ := Int.eq_ofNat_of_zero_le p3
  obtain ⟨k4, st4, t4, r4, p4, p4'⟩ := taken_eq (w := ⟨Z2, st3⟩) r3 (many := 3) (by omega) (by omega)
  obtain ⟨k, rfl⟩ := Int.eq_ofNat_of_zero_le p4
  let Z3 : List (Option (Bool × D)) := [some (false, .scr ns), some (false, .ob 0), some (false, .int (lt : Int)), some (false, pD m ls), some (false, .int (l : Int)), some (false, .int (k : Int)), none, none, none, none, none, none, none, none, none]
  have a3 : sAsg (tgT (tgC (setF 3) (tgC (setF 4) (tgC (setF 5) tgN))) 3) (eTu (lC (M.bnd (lC (eV 1) (lC (eV 2) (lC (eC (.int 5)) lN))) (fnD 7 dn__law_plan)) (lC (M.bnd (lC (eV 1) (lC (eC (.int 3)) lN)) (fnD 4 dn__law_taken)) (lC (M.bnd (lC (eV 1) (lC (eC (.int 3)) lN)) (fnD 4 dn__law_taken)) lN)))) ⟨Z2, st1⟩ = .ok .nx ⟨Z3, st4⟩ := by
    have x1 : lC (eV 1) (lC (eV 2) (lC (eC (.int 5)) lN)) ⟨Z2, st1⟩ = .ok [.ob 0, .int (lt : Int), .int 5] ⟨Z2, st1⟩ := rfl
    have x2 : ∀ st, lC (eV 1) (lC (eC (.int 3)) lN) ⟨Z2, st⟩ = .ok [.ob 0, .int 3] ⟨Z2, st⟩ := fun _ => rfl
    have b1 : M.bnd (lC (eV 1) (lC (eV 2) (lC (eC (.int 5)) lN))) (fnD 7 dn__law_plan) ⟨Z2, st1⟩ = .ok (pD m ls) ⟨Z2, st2⟩ := bnd_of x1 t2
    have b2 : M.bnd (lC (eV 1) (lC (eC (.int 3)) lN)) (fnD 4 dn__law_taken) ⟨Z2, st2⟩ = .ok (.int (l : Int)) ⟨Z2, st3⟩ := bnd_of (x2 st2) t3
    have b3 : M.bnd (lC (eV 1) (lC (eC (.int 3)) lN)) (fnD 4 dn__law_taken) ⟨Z2, st3⟩ = .ok (.int (k : Int)) ⟨Z2, st4⟩ := bnd_of (x2 st3) t4
    have q : lC (M.bnd (lC (eV 1) (lC (eV 2) (lC (eC (.int 5)) lN))) (fnD 7 dn__law_plan)) (lC (M.bnd (lC (eV 1) (lC (eC (.int 3)) lN)) (fnD 4 dn__law_taken)) (lC (M.bnd (lC (eV 1) (lC (eC (.int 3)) lN)) (fnD 4 dn__law_taken)) lN)) ⟨Z2, st1⟩ = .ok [pD m ls, .int (l : Int), .int (k : Int)] ⟨Z2, st4⟩ :=
      lC_of b1 (lC_of b2 (lC_of b3 lN_of))
    have q2 : eTu (lC (M.bnd (lC (eV 1) (lC (eV 2) (lC (eC (.int 5)) lN))) (fnD 7 dn__law_plan)) (lC (M.bnd (lC (eV 1) (lC (eC (.int 3)) lN)) (fnD 4 dn__law_taken)) (lC (M.bnd (lC (eV 1) (lC (eC (.int 3)) lN)) (fnD 4 dn__law_taken)) lN))) ⟨Z2, st1⟩ = .ok (.tup [pD m ls, .int (l : Int), .int (k : Int)]) ⟨Z2, st4⟩ := by
      rw [eTu_u, bnd_ap, q, andThen_ok, if_pos (show [pD m ls, .int (l : Int), .int (k : Int)].length ≤ sizeLine from sL3)]
      rfl
    exact sAsg_of q2 rfl
  -- 4: the count
  let Z4 : List (Option (Bool × D)) := [some (false, .scr ns), some (false, .ob 0), some (false, .int (lt : Int)), some (false, pD m ls), some (false, .int (l : Int)), some (false, .int (k : Int)), some (false, .int (2 * (l : Int) + k + 1)), none, none, none, none, none, none, none, none]
  have a4 : sSet 6 (eB addD (eB addD (eB mulD (eC (.int 2)) (eV 4)) (eV 5)) (eC (.int 1))) ⟨Z3, st4⟩ = .ok .nx ⟨Z4, st4⟩ := by
    have q : eB mulD (eC (.int 2)) (eV 4) ⟨Z3, st4⟩ = .ok (.int (2 * (l : Int))) ⟨Z3, st4⟩ := by
      refine eB_of (show eC (.int 2) ⟨Z3, st4⟩ = .ok (.int 2) ⟨Z3, st4⟩ from rfl) (show eV 4 ⟨Z3, st4⟩ = .ok (.int (l : Int)) ⟨Z3, st4⟩ from rfl) ?_
      rw [mulD_u0, if_pos (.inl (by decide))]
      rfl
    exact sSet_of (eB_of (eB_of q (show eV 5 ⟨Z3, st4⟩ = .ok (.int (k : Int)) ⟨Z3, st4⟩ from rfl) rfl) (show eC (.int 1) ⟨Z3, st4⟩ = .ok (.int 1) ⟨Z3, st4⟩ from rfl) rfl) rfl
  -- 5: the texts
  have q5 : ∃ tn : Nat, tn ≤ 4 ∧ eIf (tT (eB ltD (eV 2) (eC (.int 3)))) (eC (.int 4)) (eC (.int 3)) ⟨Z4, st4⟩ = .ok (.int (tn : Int)) ⟨Z4, st4⟩ := by
    have q : tT (eB ltD (eV 2) (eC (.int 3))) ⟨Z4, st4⟩ = .ok (decide ((lt : Int) < 3)) ⟨Z4, st4⟩ := tT_of (eB_of (show eV 2 ⟨Z4, st4⟩ = .ok (.int (lt : Int)) ⟨Z4, st4⟩ from rfl) (show eC (.int 3) ⟨Z4, st4⟩ = .ok (.int 3) ⟨Z4, st4⟩ from rfl) rfl)
    by_cases g : (lt : Int) < 3
    · rw [decide_eq_true g] at q
      refine ⟨4, by omega, ?_⟩
      rw [eIf_u, bnd_ap, q, andThen_ok, if_pos rfl]
      rfl
    · rw [decide_eq_false g] at q
      refine ⟨3, by omega, ?_⟩
      rw [eIf_u, bnd_ap, q, andThen_ok, if_neg Bool.false_ne_true]
      rfl
  obtain ⟨tn, htn, q5⟩ := q5
  obtain ⟨ts, t5, hts0, hts1, hts2⟩ := law_texts_eq (L := lt) (n := tn) (by omega) htn ⟨Z4, st4⟩
  have tok : ∀ t ∈ ts, TextOk ls t := by
    intro t ht
    obtain ⟨h1, h2⟩ := hts2 t ht
    exact ⟨by omega, fun x hx => by have := h2 x hx; omega⟩
  let Z5 : List (Option (Bool × D)) := [some (false, .scr ns), some (false, .ob 0), some (false, .int (lt : Int)), some (false, pD m ls), some (false, .int (l : Int)), some (false, .int (k : Int)), some (false, .int (2 * (l : Int) + k + 1)), some (false, .lst (ts.map tu)), none, none, none, none, none, none, none]
  have a5 : sSet 7 (M.bnd (lC (eV 2) (lC (eIf (tT (eB ltD (eV 2) (eC (.int 3)))) (eC (.int 4)) (eC (.int 3))) lN)) (fnD 8 dn__law_texts)) ⟨Z4, st4⟩ = .ok .nx ⟨Z5, st4⟩ :=
    sSet_of (bnd_of (lC_of (show eV 2 ⟨Z4, st4⟩ = .ok (.int (lt : Int)) ⟨Z4, st4⟩ from rfl) (lC_of q5 lN_of)) t5) rfl
  -- 6: what is told
  let X (s9 s10 s11 s12 s13 s14 : Option (Bool × D)) (st : List SO) : W := ⟨[some (false, .scr ns), some (false, .ob 0), some (false, .int (lt : Int)), some (false, pD m ls), some (false, .int (l : Int)), some (false, .int (k : Int)), some (false, .int (2 * (l : Int) + k + 1)), some (false, .lst (ts.map tu)), some (false, .lst (ts.map fun t => tus (rows m ls t))), s9, s10, s11, s12, s13, s14], st⟩
  have a6 : sSet 8 (eLc [12] (iSq (eV 7)) (setF 12) cY (M.bnd (lC (eV 3) (lC (eV 12) lN)) (fnD 5 dn__law_rows))) ⟨Z5, st4⟩ = .ok .nx (X none none none none none none st4) := by
    have q : eLc [12] (iSq (eV 7)) (setF 12) cY (M.bnd (lC (eV 3) (lC (eV 12) lN)) (fnD 5 dn__law_rows)) ⟨Z5, st4⟩ = .ok (.lst ((ts.filter fun _ => true).map fun t => tus (rows m ls t))) ⟨Z5, st4⟩ := by
      refine eLc_eq (l := ts) (c := tu) (p := fun _ => true) (g := fun t => tus (rows m ls t)) rfl (sL_of (by omega)) rfl ?_
      intro t ht
      let W2 : W := ⟨[some (false, .scr ns), some (false, .ob 0), some (false, .int (lt : Int)), some (false, pD m ls), some (false, .int (l : Int)), some (false, .int (k : Int)), some (false, .int (2 * (l : Int) + k + 1)), some (false, .lst (ts.map tu)), none, none, none, none, some (false, tu t), none, none], st4⟩
      exact ⟨W2, rfl, rfl, rfl, fun _ => bnd_of (a := [pD m ls, tu t]) (w1 := W2) rfl (law_rows_eq hP (tok t ht) W2)⟩
    rw [List.filter_eq_self.mpr fun _ _ => rfl] at q
    exact sSet_of q rfl
  have hc : (1 : Int) ≤ 2 * (l : Int) + k + 1 ∧ 2 * (l : Int) + k + 1 ≤ 22 := by omega
  -- 7: joined ones are alike
  obtain ⟨w7, o7, i7⟩ := for_map (as := setF 9) (c := D.int) (mb := (sSeq (sPair false false 10 11 (M.bnd (lC (eV 1) (lC (M.bnd (eV 7) lenF) lN)) (fnD 4 dn__law_taken)) (M.bnd (lC (eV 1) (lC (M.bnd (eV 7) lenF) lN)) (fnD 4 dn__law_taken))) (sIf (tAn (tT (M.bnd (lC (eB ixD (eV 8) (eV 10)) (lC (eB ixD (eV 8) (eV 11)) (lC (eV 4) (lC (eV 5) lN)))) (fnD 12 dn__law_joined))) (tNo (tT (M.bnd (lC (eV 3) (lC (eV 6) (lC (eB ixD (eV 7) (eV 10)) (lC (eB ixD (eV 7) (eV 11)) lN)))) (fnD 4 dn_alike))))) (sRet (eC (.bl false))) sPass)))
    (fun xs v => ∃ s9 s10 s11 st, v = X s9 s10 s11 none none none st ∧ RS ns st)
    (by
      rintro x xs v ⟨s9, s10, s11, st, rfl, hst⟩
      have hpos : 0 < ts.length := List.length_pos_iff.mpr hts0
      let V0 := X (some (false, .int x)) s10 s11 none none none
      have len : ∀ st, M.bnd (eV 7) lenF (V0 st) = .ok (.int (ts.length : Int)) (V0 st) := by
        intro st
        rw [bnd_ap, show eV 7 (V0 st) = .ok (.lst (ts.map tu)) (V0 st) from rfl, andThen_ok]
        simp
      obtain ⟨i, st1, t1, r1, g1, g2⟩ := taken_eq (w := V0 st) hst (many := (ts.length : Int)) (by omega) (by omega)
      obtain ⟨i, rfl⟩ := Int.eq_ofNat_of_zero_le g1
      obtain ⟨j, st2, t2, r2, g3, g4⟩ := taken_eq (w := V0 st1) r1 (many := (ts.length : Int)) (by omega) (by omega)
      obtain ⟨j, rfl⟩ := Int.eq_ofNat_of_zero_le g3
      have hi : i < ts.length := by omega
      have hj : j < ts.length := by omega
      let V := X (some (false, .int x)) (some (false, .int (i : Int))) (some (false, .int (j : Int))) none none none st2
      have b1 : sPair false false 10 11 (M.bnd (lC (eV 1) (lC (M.bnd (eV 7) lenF) lN)) (fnD 4 dn__law_taken)) (M.bnd (lC (eV 1) (lC (M.bnd (eV 7) lenF) lN)) (fnD 4 dn__law_taken)) (V0 st) = .ok .nx V := by
        have c1 := bnd_of (lC_of (show eV 1 (V0 st) = .ok (.ob 0) (V0 st) from rfl) (lC_of (len st) lN_of)) t1
        have c2 := bnd_of (lC_of (show eV 1 (V0 st1) = .ok (.ob 0) (V0 st1) from rfl) (lC_of (len st1) lN_of)) t2
        rw [sPair_u, bnd_ap, c1, andThen_ok, bnd_ap]
        rw [show (⟨(V0 st).sl, st1⟩ : W) = V0 st1 from rfl, c2, andThen_ok]
        rfl
      have e8 : ∀ (n : Nat) (sx : Nat), (hn : n < ts.length) → eV sx V = .ok (.int (n : Int)) V → eB ixD (eV 8) (eV sx) V = .ok (tus (rows m ls ts[n])) V := by
        intro n sx hn e
        refine eB_of (show eV 8 V = .ok (.lst (ts.map fun t => tus (rows m ls t))) V from rfl) e ?_
        rw [ixD_u1, atI_map, atI_ofNat, List.getElem?_eq_getElem hn]
        rfl
      have e7 : ∀ (n : Nat) (sx : Nat), (hn : n < ts.length) → eV sx V = .ok (.int (n : Int)) V → eB ixD (eV 7) (eV sx) V = .ok (tu ts[n]) V := by
        intro n sx hn e
        refine eB_of (show eV 7 V = .ok (.lst (ts.map tu)) V from rfl) e ?_
        rw [ixD_u1, atI_map, atI_ofNat, List.getElem?_eq_getElem hn]
        rfl
      have v10 : eV 10 V = .ok (.int (i : Int)) V := rfl
      have v11 : eV 11 V = .ok (.int (j : Int)) V := rfl
      obtain ⟨r, j1, j2⟩ := law_joined_eq (rows m ls ts[i]) (rows m ls ts[j]) (by simp [rows, mrs_len]; omega) (l := (l : Int)) (k := (k : Int)) (by omega) V
      have c1 : tT (M.bnd (lC (eB ixD (eV 8) (eV 10)) (lC (eB ixD (eV 8) (eV 11)) (lC (eV 4) (lC (eV 5) lN)))) (fnD 12 dn__law_joined)) V = .ok r V :=
        tT_of (bnd_of (lC_of (e8 i 10 hi v10) (lC_of (e8 j 11 hj v11) (lC_of (show eV 4 V = .ok (.int (l : Int)) V from rfl) (lC_of (show eV 5 V = .ok (.int (k : Int)) V from rfl) lN_of)))) j1)
      have c2 := alike_eq hP (tok _ (List.getElem_mem hi)) (tok _ (List.getElem_mem hj)) hc V
      have c3 : tNo (tT (M.bnd (lC (eV 3) (lC (eV 6) (lC (eB ixD (eV 7) (eV 10)) (lC (eB ixD (eV 7) (eV 11)) lN)))) (fnD 4 dn_alike))) V = .ok (!decide (firstP ls (2 * (l : Int) + k + 1) ts[i] = firstP ls (2 * (l : Int) + k + 1) ts[j])) V :=
        tNo_of (tT_of (bnd_of (lC_of (show eV 3 V = .ok (pD m ls) V from rfl) (lC_of (show eV 6 V = .ok (.int (2 * (l : Int) + k + 1)) V from rfl) (lC_of (e7 i 10 hi v10) (lC_of (e7 j 11 hj v11) lN_of)))) c2))
      have c4 : tAn (tT (M.bnd (lC (eB ixD (eV 8) (eV 10)) (lC (eB ixD (eV 8) (eV 11)) (lC (eV 4) (lC (eV 5) lN)))) (fnD 12 dn__law_joined))) (tNo (tT (M.bnd (lC (eV 3) (lC (eV 6) (lC (eB ixD (eV 7) (eV 10)) (lC (eB ixD (eV 7) (eV 11)) lN)))) (fnD 4 dn_alike)))) V = .ok false V := by
        cases r with
        | false => exact tAn_ff c1
        | true =>
          have := joined_alike hP (j2 rfl)
          rw [decide_eq_true this] at c3
          exact tAn_tt c1 c3
      exact ⟨V0 st, .nx, V, rfl, sSeq_nx b1 (sIf_ff c4 rfl), .inl rfl, _, _, _, _, rfl, r2⟩)
    (mrs 60) (X none none none none none none st4) ⟨_, _, _, _, rfl, r4⟩
  obtain ⟨s9, s10, s11, st5, rfl, r5⟩ := i7
  have a7 := sFor_ap (rg_of (n := 60) (w1 := X none none none none none none st4) (show lC (eC (.int 60)) lN (X none none none none none none st4) = .ok [.int ((60 : Nat) : Int)] _ from rfl) (by omega)) o7
  -- 8: a text
  obtain ⟨t, st6, t8, r6, ht⟩ := law_pick_eq (w := X s9 s10 s11 none none none st5) r5 hts0 hts1
  have htok := tok t ht
  have a8 : sSet 12 (M.bnd (lC (eV 1) (lC (eV 7) lN)) (fnD 2 dn__law_pick)) (X s9 s10 s11 none none none st5) = .ok .nx (X s9 s10 s11 (some (false, tu t)) none none st6) :=
    sSet_of (bnd_of (a := [.ob 0, .lst (ts.map tu)]) (w1 := X s9 s10 s11 none none none st5) rfl t8) rfl
  -- 9: its steps
  let W9 := X s9 s10 s11 (some (false, tu t)) none none st6
  obtain ⟨outs, t9, hst⟩ := law_steps_eq hP htok (hts2 t ht).1 (2 * (l : Int) + k + 1) W9
  obtain ⟨w9, o9, i9⟩ := for_map (as := setF 13) (c := tu) (mb := (sSeq (sIf (tOr' (tNo (tT (M.bnd (lC (eV 3) (lC (eV 6) (lC (eV 12) (lC (eV 13) lN)))) (fnD 4 dn_alike)))) (tT (eB neD (M.bnd (lC (eV 3) (lC (eV 6) (lC (eV 12) lN))) (fnD 3 dn_first_alike)) (M.bnd (lC (eV 3) (lC (eV 6) (lC (eV 13) lN))) (fnD 3 dn_first_alike))))) (sRet (eC (.bl false))) sPass) (sSeq (sSet 14 (M.bnd (lC (eV 3) (lC (eV 4) (lC (eV 5) (lC (eV 12) (lC (eV 13) lN))))) (fnD 12 dn__law_shared))) (sIf (tOr' (tNo (tT (M.bnd (lC (eV 3) (lC (eV 4) (lC (eV 5) (lC (eV 12) (lC (eV 14) lN))))) (fnD 5 dn_can_come)))) (tNo (tT (M.bnd (lC (eV 3) (lC (eV 4) (lC (eV 5) (lC (eV 13) (lC (eV 14) lN))))) (fnD 5 dn_can_come))))) (sRet (eC (.bl false))) sPass))))
    (fun xs v => ∃ s13 s14, v = X s9 s10 s11 (some (false, tu t)) s13 s14 st6 ∧ ∀ o ∈ xs, Step ls (2 * (l : Int) + k + 1) t o)
    (by
      rintro o xs v ⟨s13, s14, rfl, hx⟩
      have hs := hx o List.mem_cons_self
      have hotok := step_ok htok hs
      have hf := first_sig hP (step_sig hP hs)
      let V := X s9 s10 s11 (some (false, tu t)) (some (false, tu o)) s14 st6
      have c1 := alike_eq hP htok hotok hc V
      rw [decide_eq_true hf] at c1
      have c2 : tNo (tT (M.bnd (lC (eV 3) (lC (eV 6) (lC (eV 12) (lC (eV 13) lN)))) (fnD 4 dn_alike))) V = .ok false V := tNo_of (tT_of (bnd_of (a := [pD m ls, .int (2 * (l : Int) + k + 1), tu t, tu o]) (w1 := V) rfl c1))
      have c3 := first_alike_eq hP htok hc V
      have c4 := first_alike_eq hP hotok hc V
      have c5 : neD (tu (firstP ls (2 * (l : Int) + k + 1) t)) (tu (firstP ls (2 * (l : Int) + k + 1) o)) V = .ok (.bl false) V := by
        rw [neD_tu, decide_eq_true hf]
        rfl
      have c6 : tT (eB neD (M.bnd (lC (eV 3) (lC (eV 6) (lC (eV 12) lN))) (fnD 3 dn_first_alike)) (M.bnd (lC (eV 3) (lC (eV 6) (lC (eV 13) lN))) (fnD 3 dn_first_alike))) V = .ok false V :=
        tT_of (eB_of (bnd_of (a := [pD m ls, .int (2 * (l : Int) + k + 1), tu t]) (w1 := V) rfl c3) (bnd_of (a := [pD m ls, .int (2 * (l : Int) + k + 1), tu o]) (w1 := V) rfl c4) c5)
      have d1 := sIf_ff (a := sRet (eC (.bl false))) (tOr_ff c2 c6) (show sPass V = .ok .nx V from rfl)
      obtain ⟨ts3, n, e1, e2, e3⟩ := law_shared_eq hP htok hotok (l := l) (by omega) (k : Int) V
      let U := X s9 s10 s11 (some (false, tu t)) (some (false, tu o)) (some (false, tus (ts3.map (·.2.2)))) st6
      have d2 : sSet 14 (M.bnd (lC (eV 3) (lC (eV 4) (lC (eV 5) (lC (eV 12) (lC (eV 13) lN))))) (fnD 12 dn__law_shared)) V = .ok .nx U :=
        sSet_of (bnd_of (a := [pD m ls, .int (l : Int), .int (k : Int), tu t, tu o]) (w1 := V) rfl e1) rfl
      obtain ⟨f1, f2⟩ := shared_both hP (l := l) (k := k) (by omega) (by omega) htok hotok (step_dif hs) e2 e3 U
      have y1 : lC (eV 3) (lC (eV 4) (lC (eV 5) (lC (eV 12) (lC (eV 14) lN)))) U = .ok [pD m ls, .int (l : Int), .int (k : Int), tu t, tus (ts3.map (·.2.2))] U := rfl
      have y2 : lC (eV 3) (lC (eV 4) (lC (eV 5) (lC (eV 13) (lC (eV 14) lN)))) U = .ok [pD m ls, .int (l : Int), .int (k : Int), tu o, tus (ts3.map (·.2.2))] U := rfl
      have d3 : tNo (tT (M.bnd (lC (eV 3) (lC (eV 4) (lC (eV 5) (lC (eV 12) (lC (eV 14) lN))))) (fnD 5 dn_can_come))) U = .ok false U := tNo_of (tT_of (bnd_of y1 f1))
      have d4 : tNo (tT (M.bnd (lC (eV 3) (lC (eV 4) (lC (eV 5) (lC (eV 13) (lC (eV 14) lN))))) (fnD 5 dn_can_come))) U = .ok false U := tNo_of (tT_of (bnd_of y2 f2))
      have d5 := sIf_ff (a := sRet (eC (.bl false))) (tOr_ff d3 d4) (show sPass U = .ok .nx U from rfl)
      exact ⟨V, .nx, U, rfl, sSeq_nx d1 (sSeq_nx d2 d5), .inl rfl, _, _, rfl, fun y hy => hx y (List.mem_cons_of_mem _ hy)⟩)
    outs W9 ⟨_, _, rfl, hst⟩
  obtain ⟨s13, s14, rfl, _⟩ := i9
  have a9 : sFor (iSq (M.bnd (lC (eV 3) (lC (eV 6) (lC (eV 12) lN))) (fnD 5 dn__law_steps))) (setF 13) _ W9 = _ := sFor_ap (w := W9) (l := outs.map tu) (by
    have q := bnd_of (f := fnD 5 dn__law_steps) (show lC (eV 3) (lC (eV 6) (lC (eV 12) lN)) W9 = .ok [pD m ls, .int (2 * (l : Int) + k + 1), tu t] W9 from rfl) t9
    rw [iSq_u, bnd_ap, q, andThen_ok]
    rfl) o9
  have a10 : sRet (eC (.bl true)) (X s9 s10 s11 (some (false, tu t)) s13 s14 st6) = .ok (.rt (.bl true)) (X s9 s10 s11 (some (false, tu t)) s13 s14 st6) := rfl
  exact ⟨_, sSeq_nx a1 (sSeq_nx a2 (sSeq_nx a3 (sSeq_nx a4 (sSeq_nx a5 (sSeq_nx a6 (sSeq_nx a7 (sSeq_nx a8 (sSeq_nx a9 a10))))))))⟩
theorem good_all : ∀ ns : List Int, ns.length ≤ 63 → ∃ w', dn_law ⟨args 15 [.scr ns], []⟩ = .ok (.rt (.bl true)) w' := fun ns _ => good ns
end LawT


set_option Elab.async false
set_option linter.all false
set_option maxRecDepth 100000
set_option maxHeartbeats 0
namespace LawT
open PySem PySem.Spec PyProof.Rows L2 Dl
def d_is_number : He.DefD := ⟨("is_number", none), "is_number", "is_number", defArgs s_is_number, defBody s_is_number, defScope s_is_number, [], []⟩
def d_need_number : He.DefD := ⟨("need_number", none), "need_number", "need_number", defArgs s_need_number, defBody s_need_number, defScope s_need_number, [], []⟩
def d_is_text : He.DefD := ⟨("is_text", none), "is_text", "is_text", defArgs s_is_text, defBody s_is_text, defScope s_is_text, [], []⟩
def d_need_text : He.DefD := ⟨("need_text", none), "need_text", "need_text", defArgs s_need_text, defBody s_need_text, defScope s_need_text, [], []⟩
def d_is_lot : He.DefD := ⟨("is_lot", none), "is_lot", "is_lot", defArgs s_is_lot, defBody s_is_lot, defScope s_is_lot, [], []⟩
def d_need_plan : He.DefD := ⟨("need_plan", none), "need_plan", "need_plan", defArgs s_need_plan, defBody s_need_plan, defScope s_need_plan, [], []⟩
def d_row_for : He.DefD := ⟨("row_for", none), "row_for", "row_for", defArgs s_row_for, defBody s_row_for, defScope s_row_for, [], []⟩
def d_rows_of : He.DefD := ⟨("rows_of", none), "rows_of", "rows_of", defArgs s_rows_of, defBody s_rows_of, defScope s_rows_of, [], []⟩
def d_common_of : He.DefD := ⟨("common_of", none), "common_of", "common_of", defArgs s_common_of, defBody s_common_of, defScope s_common_of, [], []⟩
def d_need_faults : He.DefD := ⟨("need_faults", none), "need_faults", "need_faults", defArgs s_need_faults, defBody s_need_faults, defScope s_need_faults, [], []⟩
def d_is_row : He.DefD := ⟨("is_row", none), "is_row", "is_row", defArgs s_is_row, defBody s_is_row, defScope s_is_row, [], []⟩
def d_need_post : He.DefD := ⟨("need_post", none), "need_post", "need_post", defArgs s_need_post, defBody s_need_post, defScope s_need_post, [], []⟩
def d_comes_of : He.DefD := ⟨("comes_of", none), "comes_of", "comes_of", defArgs s_comes_of, defBody s_comes_of, defScope s_comes_of, [], []⟩
def d_can_come : He.DefD := ⟨("can_come", none), "can_come", "can_come", defArgs s_can_come, defBody s_can_come, defScope s_can_come, [], []⟩
def d_need_count : He.DefD := ⟨("need_count", none), "need_count", "need_count", defArgs s_need_count, defBody s_need_count, defScope s_need_count, [], []⟩
def d_heard_of : He.DefD := ⟨("heard_of", none), "heard_of", "heard_of", defArgs s_heard_of, defBody s_heard_of, defScope s_heard_of, [], []⟩
def d_are_free : He.DefD := ⟨("are_free", none), "are_free", "are_free", defArgs s_are_free, defBody s_are_free, defScope s_are_free, [], []⟩
def d_first_of : He.DefD := ⟨("first_of", none), "first_of", "first_of", defArgs s_first_of, defBody s_first_of, defScope s_first_of, [], []⟩
def d_first_alike : He.DefD := ⟨("first_alike", none), "first_alike", "first_alike", defArgs s_first_alike, defBody s_first_alike, defScope s_first_alike, [], []⟩
def d_alike : He.DefD := ⟨("alike", none), "alike", "alike", defArgs s_alike, defBody s_alike, defScope s_alike, [], []⟩
def d__law_taken : He.DefD := ⟨("_law_taken", none), "_law_taken", "_law_taken", defArgs s__law_taken, defBody s__law_taken, defScope s__law_taken, [], []⟩
def d__law_plan : He.DefD := ⟨("_law_plan", none), "_law_plan", "_law_plan", defArgs s__law_plan, defBody s__law_plan, defScope s__law_plan, [], []⟩
def d__law_texts : He.DefD := ⟨("_law_texts", none), "_law_texts", "_law_texts", defArgs s__law_texts, defBody s__law_texts, defScope s__law_texts, [], []⟩
def d__law_rows : He.DefD := ⟨("_law_rows", none), "_law_rows", "_law_rows", defArgs s__law_rows, defBody s__law_rows, defScope s__law_rows, [], []⟩
def d__law_starts : He.DefD := ⟨("_law_starts", none), "_law_starts", "_law_starts", defArgs s__law_starts, defBody s__law_starts, defScope s__law_starts, [], []⟩
def d__law_joined : He.DefD := ⟨("_law_joined", none), "_law_joined", "_law_joined", defArgs s__law_joined, defBody s__law_joined, defScope s__law_joined, [], []⟩
def d__law_pick : He.DefD := ⟨("_law_pick", none), "_law_pick", "_law_pick", defArgs s__law_pick, defBody s__law_pick, defScope s__law_pick, [], []⟩
def d__law_common : He.DefD := ⟨("_law_common", none), "_law_common", "_law_common", defArgs s__law_common, defBody s__law_common, defScope s__law_common, [], []⟩
def d__law_steps : He.DefD := ⟨("_law_steps", none), "_law_steps", "_law_steps", defArgs s__law_steps, defBody s__law_steps, defScope s__law_steps, [], []⟩
def d__law_shared : He.DefD := ⟨("_law_shared", none), "_law_shared", "_law_shared", defArgs s__law_shared, defBody s__law_shared, defScope s__law_shared, [], []⟩
def d_law : He.DefD := ⟨("law", none), "law", "law", defArgs s_law, defBody s_law, defScope s_law, [], []⟩
def fnL : List He.DefD := [d_is_number, d_need_number, d_is_text, d_need_text, d_is_lot, d_need_plan, d_row_for, d_rows_of, d_common_of, d_need_faults, d_is_row, d_need_post, d_comes_of, d_can_come, d_need_count, d_heard_of, d_are_free, d_first_of, d_first_alike, d_alike, d__law_taken, d__law_plan, d__law_texts, d__law_rows, d__law_starts, d__law_joined, d__law_pick, d__law_common, d__law_steps, d__law_shared, d_law]
def faL : List He.Fa := [.glo "is_number", .glo "need_number", .glo "is_text", .glo "need_text", .glo "is_lot", .glo "need_plan", .glo "row_for", .glo "rows_of", .glo "common_of", .glo "need_faults", .glo "is_row", .glo "need_post", .glo "comes_of", .glo "can_come", .glo "need_count", .glo "heard_of", .glo "are_free", .glo "first_of", .glo "first_alike", .glo "alike", .glo "_law_taken", .glo "_law_plan", .glo "_law_texts", .glo "_law_rows", .glo "_law_starts", .glo "_law_joined", .glo "_law_pick", .glo "_law_common", .glo "_law_steps", .glo "_law_shared", .glo "law", .free "all", .free "bool", .free "enumerate", .free "int", .free "isinstance", .free "len", .free "min", .free "range", .free "tuple", .free "zip", .int "MOST_COUNT" 22, .int "MOST_LETTERS" 5, .int "MOST_MESSENGERS" 7, .int "MOST_TEXT" 40]
def tfL : List He.Defn := [("is_text", none), ("is_lot", none), ("need_plan", none), ("is_row", none), ("first_of", none)]
def loose : List Str := (["__name__", "PostError", "BadPlan", "BadText", "BadNumber", "BadPost", "MOST_LETTERS", "MOST_TEXT", "is_number", "need_number", "is_text", "need_text", "MOST_MESSENGERS", "is_lot", "need_plan", "row_for", "rows_of", "common_of", "need_faults", "is_row", "need_post", "comes_of", "can_come", "MOST_COUNT", "need_count", "heard_of", "are_free", "first_of", "first_alike", "alike"] : List Str) ++ (["_law_taken", "_law_plan", "_law_texts", "_law_rows", "_law_starts", "_law_joined", "_law_pick", "_law_common", "_law_steps", "_law_shared"] : List Str)
abbrev R : PySem.W.OpenRow := PySem.W.OpenLaw.row PySem.Challenge.rw_liarpost_k12_whatever_the_question
abbrev hk : PySem.W.Hook := He.hookX 6 faL fnL [] tfL (fun _ => true)
def ob (s : PySem.W.SharedT) : He.AlX := He.obsX 6 faL fnL [] tfL (fun _ => true) (HandSHeadRun.getT s)
theorem ob_eq (s : PySem.W.SharedT) : ob s = hk.obs s.abs := He.obsX_eq (HandSHeadRun.getT_eq s)
theorem run (w : World) : HandSHeadRun.RunEq R (PySem.W.view R.prog [44]) hk ob 4000 loose w := by
  intro os
  kernel_rfl
abbrev Good : Prop := ∀ ns : List Int, ns.length ≤ 63 → ∃ w', dn_law ⟨args 15 [.scr ns], []⟩ = .ok (.rt (.bl true)) w'
/-- the law at a world -/
theorem law_at (good : Good) (w : World) (mg : Str → Option Value) (fa : Addr) (h : Heap) (Y : hk.says w h) (G : h.Ns mainGlobals mg) (hmg : mg ("law" : Str) = some (.ref fa)) : ∃ K : PySem.W.Frag, K.In h ∧ LamX.LawAtS PySem.Challenge.rw_liarpost_k12_whatever_the_question w K (L2.CX (PySem.Challenge.rw_liarpost_k12_whatever_the_question).prog w) 7 63 "_law_script" mg fa h := by
  obtain ⟨K, KX, c⟩ := Y
  have cd : He.SaysD faL fnL K := c.t.d
  obtain ⟨fd_is_number, F_is_number⟩ := cd.def_ 0 (d := d_is_number) rfl
  obtain ⟨fd_need_number, F_need_number⟩ := cd.def_ 1 (d := d_need_number) rfl
  obtain ⟨fd_is_text, F_is_text⟩ := cd.def_ 2 (d := d_is_text) rfl
  obtain ⟨fd_need_text, F_need_text⟩ := cd.def_ 3 (d := d_need_text) rfl
  obtain ⟨fd_is_lot, F_is_lot⟩ := cd.def_ 4 (d := d_is_lot) rfl
  obtain ⟨fd_need_plan, F_need_plan⟩ := cd.def_ 5 (d := d_need_plan) rfl
  obtain ⟨fd_row_for, F_row_for⟩ := cd.def_ 6 (d := d_row_for) rfl
  obtain ⟨fd_rows_of, F_rows_of⟩ := cd.def_ 7 (d := d_rows_of) rfl
  obtain ⟨fd_common_of, F_common_of⟩ := cd.def_ 8 (d := d_common_of) rfl
  obtain ⟨fd_need_faults, F_need_faults⟩ := cd.def_ 9 (d := d_need_faults) rfl
  obtain ⟨fd_is_row, F_is_row⟩ := cd.def_ 10 (d := d_is_row) rfl
  obtain ⟨fd_need_post, F_need_post⟩ := cd.def_ 11 (d := d_need_post) rfl
  obtain ⟨fd_comes_of, F_comes_of⟩ := cd.def_ 12 (d := d_comes_of) rfl
  obtain ⟨fd_can_come, F_can_come⟩ := cd.def_ 13 (d := d_can_come) rfl
  obtain ⟨fd_need_count, F_need_count⟩ := cd.def_ 14 (d := d_need_count) rfl
  obtain ⟨fd_heard_of, F_heard_of⟩ := cd.def_ 15 (d := d_heard_of) rfl
  obtain ⟨fd_are_free, F_are_free⟩ := cd.def_ 16 (d := d_are_free) rfl
  obtain ⟨fd_first_of, F_first_of⟩ := cd.def_ 17 (d := d_first_of) rfl
  obtain ⟨fd_first_alike, F_first_alike⟩ := cd.def_ 18 (d := d_first_alike) rfl
  obtain ⟨fd_alike, F_alike⟩ := cd.def_ 19 (d := d_alike) rfl
  obtain ⟨fd__law_taken, F__law_taken⟩ := cd.def_ 20 (d := d__law_taken) rfl
  obtain ⟨fd__law_plan, F__law_plan⟩ := cd.def_ 21 (d := d__law_plan) rfl
  obtain ⟨fd__law_texts, F__law_texts⟩ := cd.def_ 22 (d := d__law_texts) rfl
  obtain ⟨fd__law_rows, F__law_rows⟩ := cd.def_ 23 (d := d__law_rows) rfl
  obtain ⟨fd__law_starts, F__law_starts⟩ := cd.def_ 24 (d := d__law_starts) rfl
  obtain ⟨fd__law_joined, F__law_joined⟩ := cd.def_ 25 (d := d__law_joined) rfl
  obtain ⟨fd__law_pick, F__law_pick⟩ := cd.def_ 26 (d := d__law_pick) rfl
  obtain ⟨fd__law_common, F__law_common⟩ := cd.def_ 27 (d := d__law_common) rfl
  obtain ⟨fd__law_steps, F__law_steps⟩ := cd.def_ 28 (d := d__law_steps) rfl
  obtain ⟨fd__law_shared, F__law_shared⟩ := cd.def_ 29 (d := d__law_shared) rfl
  obtain ⟨fd_law, F_law⟩ := cd.def_ 30 (d := d_law) rfl
  have e := hmg.symm.trans (He.glo_ok KX G (cd.fact 30 (f := .glo "law") rfl))
  cases e
  have b := FunD.bindsA (ps := ["_law_script"]) F_law fun _ _ _ _ _ _ us hl => match us, hl with | [_], _ => rfl
  have inT : ∀ (p : He.Defn) (i : Nat), tfL[i]? = some p → He.cT K p ∈ tfL.map (He.cT K) := fun p i h => List.mem_map.mpr ⟨p, List.mem_of_getElem? h, rfl⟩
  have inT2 : ∀ (p : He.Defn) (i : Nat), tfL[i]? = some p → (He.cT K p).2 ∈ (tfL.map (He.cT K)).map (·.2) := fun p i h => List.mem_map.mpr ⟨_, inT p i h, rfl⟩
  let g : Gm := { w := w, T := (tfL.map (He.cT K)).map (·.2), K := K, cl := fun _ => 0, fld := fun _ => "" }
  refine ⟨K, KX, fd_law, tfL.map (He.cT K), spD g 1 15 dn_law, ?_, ?_, ?_, fun s v => b s [v] rfl, fun H a ns hn _ hH hS => law_sp (g := g) rfl hH hS (good ns hn), fun base KB GB TB => ?_⟩
  · intro p hp
    obtain ⟨u, hu, rfl⟩ := List.mem_map.mp hp
    exact c.empty u hu
  · intro p hp
    obtain ⟨u, hu, rfl⟩ := List.mem_map.mp hp
    exact c.out u hu
  · intro p hp
    obtain ⟨u, hu, rfl⟩ := List.mem_map.mp hp
    exact PySem.W.codeHd_of_K KX (c.hd u hu)
  · exact ok_law (g := g) {
      hw := rfl
      hK := rfl
      a_is_number := _
      fd_is_number := fd_is_number
      F_is_number := F_is_number
      m_is_number := He.glo_ok KX G (cd.fact 0 (f := .glo "is_number") rfl)
      a_need_number := _
      fd_need_number := fd_need_number
      F_need_number := F_need_number
      m_need_number := He.glo_ok KX G (cd.fact 1 (f := .glo "need_number") rfl)
      a_is_text := _
      fd_is_text := fd_is_text
      F_is_text := F_is_text
      m_is_text := He.glo_ok KX G (cd.fact 2 (f := .glo "is_text") rfl)
      t_is_text := tb_of (p := ("is_text", none)) F_is_text (have z := TB _ (inT ("is_text", none) 0 rfl); ⟨z.code, z.bm, z.gP⟩) (inT2 ("is_text", none) 0 rfl)
      a_need_text := _
      fd_need_text := fd_need_text
      F_need_text := F_need_text
      m_need_text := He.glo_ok KX G (cd.fact 3 (f := .glo "need_text") rfl)
      a_is_lot := _
      fd_is_lot := fd_is_lot
      F_is_lot := F_is_lot
      m_is_lot := He.glo_ok KX G (cd.fact 4 (f := .glo "is_lot") rfl)
      t_is_lot := tb_of (p := ("is_lot", none)) F_is_lot (have z := TB _ (inT ("is_lot", none) 1 rfl); ⟨z.code, z.bm, z.gP⟩) (inT2 ("is_lot", none) 1 rfl)
      a_need_plan := _
      fd_need_plan := fd_need_plan
      F_need_plan := F_need_plan
      m_need_plan := He.glo_ok KX G (cd.fact 5 (f := .glo "need_plan") rfl)
      t_need_plan := tb_of (p := ("need_plan", none)) F_need_plan (have z := TB _ (inT ("need_plan", none) 2 rfl); ⟨z.code, z.bm, z.gP⟩) (inT2 ("need_plan", none) 2 rfl)
      a_row_for := _
      fd_row_for := fd_row_for
      F_row_for := F_row_for
      m_row_for := He.glo_ok KX G (cd.fact 6 (f := .glo "row_for") rfl)
      a_rows_of := _
      fd_rows_of := fd_rows_of
      F_rows_of := F_rows_of
      m_rows_of := He.glo_ok KX G (cd.fact 7 (f := .glo "rows_of") rfl)
      a_common_of := _
      fd_common_of := fd_common_of
      F_common_of := F_common_of
      m_common_of := He.glo_ok KX G (cd.fact 8 (f := .glo "common_of") rfl)
      a_need_faults := _
      fd_need_faults := fd_need_faults
      F_need_faults := F_need_faults
      m_need_faults := He.glo_ok KX G (cd.fact 9 (f := .glo "need_faults") rfl)
      a_is_row := _
      fd_is_row := fd_is_row
      F_is_row := F_is_row
      m_is_row := He.glo_ok KX G (cd.fact 10 (f := .glo "is_row") rfl)
      t_is_row := tb_of (p := ("is_row", none)) F_is_row (have z := TB _ (inT ("is_row", none) 3 rfl); ⟨z.code, z.bm, z.gP⟩) (inT2 ("is_row", none) 3 rfl)
      a_need_post := _
      fd_need_post := fd_need_post
      F_need_post := F_need_post
      m_need_post := He.glo_ok KX G (cd.fact 11 (f := .glo "need_post") rfl)
      a_comes_of := _
      fd_comes_of := fd_comes_of
      F_comes_of := F_comes_of
      m_comes_of := He.glo_ok KX G (cd.fact 12 (f := .glo "comes_of") rfl)
      a_can_come := _
      fd_can_come := fd_can_come
      F_can_come := F_can_come
      m_can_come := He.glo_ok KX G (cd.fact 13 (f := .glo "can_come") rfl)
      a_need_count := _
      fd_need_count := fd_need_count
      F_need_count := F_need_count
      m_need_count := He.glo_ok KX G (cd.fact 14 (f := .glo "need_count") rfl)
      a_heard_of := _
      fd_heard_of := fd_heard_of
      F_heard_of := F_heard_of
      m_heard_of := He.glo_ok KX G (cd.fact 15 (f := .glo "heard_of") rfl)
      a_are_free := _
      fd_are_free := fd_are_free
      F_are_free := F_are_free
      m_are_free := He.glo_ok KX G (cd.fact 16 (f := .glo "are_free") rfl)
      a_first_of := _
      fd_first_of := fd_first_of
      F_first_of := F_first_of
      m_first_of := He.glo_ok KX G (cd.fact 17 (f := .glo "first_of") rfl)
      t_first_of := tb_of (p := ("first_of", none)) F_first_of (have z := TB _ (inT ("first_of", none) 4 rfl); ⟨z.code, z.bm, z.gP⟩) (inT2 ("first_of", none) 4 rfl)
      a_first_alike := _
      fd_first_alike := fd_first_alike
      F_first_alike := F_first_alike
      m_first_alike := He.glo_ok KX G (cd.fact 18 (f := .glo "first_alike") rfl)
      a_alike := _
      fd_alike := fd_alike
      F_alike := F_alike
      m_alike := He.glo_ok KX G (cd.fact 19 (f := .glo "alike") rfl)
      a__law_taken := _
      fd__law_taken := fd__law_taken
      F__law_taken := F__law_taken
      m__law_taken := He.glo_ok KX G (cd.fact 20 (f := .glo "_law_taken") rfl)
      a__law_plan := _
      fd__law_plan := fd__law_plan
      F__law_plan := F__law_plan
      m__law_plan := He.glo_ok KX G (cd.fact 21 (f := .glo "_law_plan") rfl)
      a__law_texts := _
      fd__law_texts := fd__law_texts
      F__law_texts := F__law_texts
      m__law_texts := He.glo_ok KX G (cd.fact 22 (f := .glo "_law_texts") rfl)
      a__law_rows := _
      fd__law_rows := fd__law_rows
      F__law_rows := F__law_rows
      m__law_rows := He.glo_ok KX G (cd.fact 23 (f := .glo "_law_rows") rfl)
      a__law_starts := _
      fd__law_starts := fd__law_starts
      F__law_starts := F__law_starts
      m__law_starts := He.glo_ok KX G (cd.fact 24 (f := .glo "_law_starts") rfl)
      a__law_joined := _
      fd__law_joined := fd__law_joined
      F__law_joined := F__law_joined
      m__law_joined := He.glo_ok KX G (cd.fact 25 (f := .glo "_law_joined") rfl)
      a__law_pick := _
      fd__law_pick := fd__law_pick
      F__law_pick := F__law_pick
      m__law_pick := He.glo_ok KX G (cd.fact 26 (f := .glo "_law_pick") rfl)
      a__law_common := _
      fd__law_common := fd__law_common
      F__law_common := F__law_common
      m__law_common := He.glo_ok KX G (cd.fact 27 (f := .glo "_law_common") rfl)
      a__law_steps := _
      fd__law_steps := fd__law_steps
      F__law_steps := F__law_steps
      m__law_steps := He.glo_ok KX G (cd.fact 28 (f := .glo "_law_steps") rfl)
      a__law_shared := _
      fd__law_shared := fd__law_shared
      F__law_shared := F__law_shared
      m__law_shared := He.glo_ok KX G (cd.fact 29 (f := .glo "_law_shared") rfl)
      a_law := _
      fd_law := fd_law
      F_law := F_law
      m_law := He.glo_ok KX G (cd.fact 30 (f := .glo "law") rfl)
      b_all := He.free_ok KX G (cd.fact 31 (f := .free "all") rfl)
      b_bool := He.free_ok KX G (cd.fact 32 (f := .free "bool") rfl)
      b_enumerate := He.free_ok KX G (cd.fact 33 (f := .free "enumerate") rfl)
      b_int := He.free_ok KX G (cd.fact 34 (f := .free "int") rfl)
      b_isinstance := He.free_ok KX G (cd.fact 35 (f := .free "isinstance") rfl)
      b_len := He.free_ok KX G (cd.fact 36 (f := .free "len") rfl)
      b_min := He.free_ok KX G (cd.fact 37 (f := .free "min") rfl)
      b_range := He.free_ok KX G (cd.fact 38 (f := .free "range") rfl)
      b_tuple := He.free_ok KX G (cd.fact 39 (f := .free "tuple") rfl)
      b_zip := He.free_ok KX G (cd.fact 40 (f := .free "zip") rfl)
      i_MOST_COUNT := He.int_ok KX G (cd.fact 41 (f := .int "MOST_COUNT" 22) rfl)
      i_MOST_LETTERS := He.int_ok KX G (cd.fact 42 (f := .int "MOST_LETTERS" 5) rfl)
      i_MOST_MESSENGERS := He.int_ok KX G (cd.fact 43 (f := .int "MOST_MESSENGERS" 7) rfl)
      i_MOST_TEXT := He.int_ok KX G (cd.fact 44 (f := .int "MOST_TEXT" 40) rfl)
    }
theorem holds (good : Good) : (PySem.Challenge.rw_liarpost_k12_whatever_the_question).Holds := by
  w_on; o_law
  refine HandSHeadRun.head_any (r := R) (q := PySem.W.view R.prog [44]) (H := hk) (ob := ob) (M := 4000) (loose := loose) (d := HandSHeadRun.topDef R.prog 44) (kwd := []) ob_eq
    (by kernel_rfl) (fun s => by kernel_rfl) run (by kernel_rfl) (by kernel_rfl) (by kernel_rfl) (by rfl) (by first | assumption | decide +kernel) (by decide +kernel) ⟨rfl, rfl, rfl, rfl, rfl, by decide +kernel⟩ ?hw ?hc
  case hw => w_witness2
  case hc =>
    refine LamX.walk_ofTsE (l := PySem.Challenge.rw_liarpost_k12_whatever_the_question) (n := 63) (k := 7) (x := "_law_script") (CX := L2.CX (PySem.Challenge.rw_liarpost_k12_whatever_the_question).prog) rfl (by decide) (by kernel_rfl) ⟨rfl, by decide, by decide⟩ ?F ?X
    case F =>
      intro w mg fa h Y G hmg0
      have e : (HandSHeadRun.topDef R.prog 44).name = ("law" : PySem.Str) := by kernel_rfl
      exact law_at good w mg fa h Y G (by rw [← e]; exact hmg0)
    case X =>
      intro w H s e s' h
      obtain ⟨a, B, H', cls, d, _, _, _, _, _, _, _, z⟩ := h
      exact z
end LawT


theorem PySem.Challenge.cw_liarpost_k12_whatever_the_question_holds : PySem.Challenge.rw_liarpost_k12_whatever_the_question.Holds := by
  exact LawT.holds LawT.good_all
