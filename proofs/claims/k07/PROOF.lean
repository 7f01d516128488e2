import PyProof.Rows.All
import Wide.All
import OpenK.AllK
import Wide.FinOn
import HandS.ForMost
import HandS.More
import KE.KeyNested
import KE.KDictCopyH
import KE.KIndexOf
import HandS.Deep
import HandS.IsInst
import HandS.DictComp
import HandS.Zip
import HandS.Conv
import HandS.TupAny
import HandS.Defaults
import HandS.HeadHook2
import KE.KDictOf
import HandS.RaiseMore
import HandS.Strs
import KE.KSuper
import HandS.Nested
import HandS.Head0
import HandS.Head1
import HandS.Head2
import HandS.HeadEnd
import HandS.HeadHook1
import HandS.HeadHook3
import PySem.Challenge.RW_badvalues_k07_steps_of_marks
set_option Elab.async false
set_option linter.all false
set_option maxRecDepth 100000
/-! MP1: the values D, what a value stands for at an abstract heap (Rep), how that stays. -/
namespace MP
open PySem PySem.Spec PyProof.Rows L2

/-- values: data by content; ref n: the n-th shared object -/
inductive D where
  | non | bl (b : Bool) | int (i : Int) | str (x : Str)
  | tup (l : List D) | lst (l : List D) | dct (l : List (D × D))
  | ins (c : Nat) (fs : List (Str × D)) | ref (n : Nat)
  /-- the script -/
  | scr (l : List D)

mutual
/-- a key that is a nested tuple, as data -/
def nkD : NestedKey → D
  | .none => .non
  | .num i => .int i
  | .text x => .str x
  | .tup l => .tup (nkDl l)
def nkDl : List NestedKey → List D
  | [] => []
  | k :: r => nkD k :: nkDl r
end
mutual
def D.nk : D → Option NestedKey
  | .non => some .none
  | .int i => some (.num i)
  | .str x => some (.text x)
  | .tup l => (D.nkl l).map NestedKey.tup
  | _ => none
def D.nkl : List D → Option (List NestedKey)
  | [] => some []
  | d :: r => match d.nk, D.nkl r with
    | some k, some l => some (k :: l)
    | _, _ => none
end
/-- a tuple that may be a key -/
def TupKey (k : NestedKey) : Prop := (∃ l, k = .tup l) ∧ k.depth ≤ 8

/-- what is fixed: the program, the world, the written part, where the classes stand -/
structure RC where
  P : Program
  w : World
  K : PySem.W.Frag
  ca : Nat → Addr

/-- a dict whose keys are tuples: the one object; the keys' content, their addresses, the values -/
def dtPhi (w : World) (a : Addr) (l : List (NestedKey × Addr × V)) : Heap → Prop := fun h =>
  l.length ≤ sizeLine ∧ (a == sysModules) = false ∧ (l.map (·.1)).Nodup ∧ ∃ o es ep, h.get? a = some o ∧ o.ExactDict ∧ o.data = .dict es ep ∧
    Paired (fun (p : NestedKey × Addr × V) (e : DictEntry) => e.hash = p.1.hash w ∧ e.key = .ref p.2.1 ∧ RelV p.2.2 e.val) l es.toList

def kD : Key → D
  | .inl i => .int i
  | .inr x => .str x

def KTup (K : PySem.W.Frag) (a : Addr) (xs : List V) : Prop :=
  ∃ (o : Obj) (its : Array Value) (n : Nat), K.lookup a = some o ∧ o.dict = none ∧ o.cls = .type "tuple" ∧ o.data = .seq its n ∧ its.size ≤ sizeLine ∧ Vals xs its.toList
/-- a dict of the written part, its keys texts -/
def KDct (C : RC) (a : Addr) (xs : List (Str × V)) : Prop :=
  ∃ es n, C.K.lookup a = some ⟨.type "dict", none, .dict es n, #[]⟩ ∧ (a == sysModules) = false ∧ xs.length ≤ sizeLine ∧ (xs.map (·.1)).Nodup ∧
    Paired (fun (p : Str × V) (e : DictEntry) => (∃ t, e.key = .str p.1 t) ∧ e.hash = hashStr C.w p.1 ∧ RelV p.2 e.val) xs es.toList
def TupAt (C : RC) (M : Addr → Prop) (H : Hp) (a : Addr) (vs : List V) : Prop := (¬ M a ∧ ∃ o, H a = some (.frz o (.tup vs)) ∧ o.dict = none) ∨ KTup C.K a vs
theorem TupAt.sq {C : RC} {M : Addr → Prop} {H : Hp} {a : Addr} {vs : List V} (h : TupAt C M H a vs) : SqT C.K H a vs := h.elim (fun x => let ⟨o, q, _⟩ := x.2; .inl (.inr ⟨o, q⟩)) fun ⟨o, its, n, h1, _, h2, h3, h4, h5⟩ => .inr ⟨o, its, n, h1, h2, h3, h4, h5⟩

/-- a list that nobody changes, tracked or of the written part -/
def LstAt (C : RC) (M : Addr → Prop) (H : Hp) (a : Addr) (vs : List V) : Prop := (¬ M a ∧ Rd H a (.lst vs)) ∨
    ∃ (o : Obj) (its : Array Value) (n : Nat), C.K.lookup a = some o ∧ o.cls = .type "list" ∧ o.dict = none ∧ o.data = .seq its n ∧ its.size ≤ sizeLine ∧ Vals vs its.toList
theorem LstAt.sq {C : RC} {M : Addr → Prop} {H : Hp} {a : Addr} {vs : List V} (h : LstAt C M H a vs) : SqL C.K H a vs := h.elim (fun x => .inl x.2) .inr

mutual
/-- v stands for d: ι where the shared objects stand, M what may change -/
inductive Rep (C : RC) (ι : List Addr) (M : Addr → Prop) (H : Hp) : V → D → Prop
  | non : Rep C ι M H .non .non
  | bl (b : Bool) : Rep C ι M H (.bl b) (.bl b)
  | int (i : Int) : Rep C ι M H (.int i) (.int i)
  | str (x : Str) : Rep C ι M H (.str x) (.str x)
  | tup {a : Addr} {vs : List V} {ds : List D} : TupAt C M H a vs → Reps C ι M H vs ds → Rep C ι M H (.ref a) (.tup ds)
  | lst {a : Addr} {vs : List V} {ds : List D} : ¬ M a → H a = some (.lst vs) → Reps C ι M H vs ds → Rep C ι M H (.ref a) (.lst ds)
  | scr {a : Addr} {vs : List V} {ds : List D} : LstAt C M H a vs → Reps C ι M H vs ds → Rep C ι M H (.ref a) (.scr ds)
  | dctK {a : Addr} {o : Obj} {kvs : List (Key × V)} {ds : List (D × D)} : ¬ M a → H a = some (.frz o (.dK kvs)) → RepKs C ι M H kvs ds → Rep C ι M H (.ref a) (.dct ds)
  | dctT {a : Addr} {o : Obj} {l : List (NestedKey × Addr × V)} {ds : List (D × D)} : ¬ M a → H a = some (.frz o (.ext (dtPhi C.w a l))) → RepTs C ι M H l ds → Rep C ι M H (.ref a) (.dct ds)
  | dctG {a : Addr} {xs : List (Str × V)} {ds : List (D × D)} : KDct C a xs → RepGs C ι M H xs ds → Rep C ι M H (.ref a) (.dct ds)
  | ins {a : Addr} {c : Nat} {dx : Addr} {vfs : List (Str × V)} {fs : List (Str × D)} : ¬ M a → H a = some (.ins (C.ca c) dx vfs) → RepFs C ι M H vfs fs → Rep C ι M H (.ref a) (.ins c fs)
  | ref {a : Addr} {n : Nat} : ι[n]? = some a → Rep C ι M H (.ref a) (.ref n)
inductive Reps (C : RC) (ι : List Addr) (M : Addr → Prop) (H : Hp) : List V → List D → Prop
  | nil : Reps C ι M H [] []
  | cons {v : V} {vs : List V} {d : D} {ds : List D} : Rep C ι M H v d → Reps C ι M H vs ds → Reps C ι M H (v :: vs) (d :: ds)
inductive RepKs (C : RC) (ι : List Addr) (M : Addr → Prop) (H : Hp) : List (Key × V) → List (D × D) → Prop
  | nil : RepKs C ι M H [] []
  | cons {k : Key} {v : V} {vs : List (Key × V)} {d : D} {ds : List (D × D)} : Rep C ι M H v d → RepKs C ι M H vs ds → RepKs C ι M H ((k, v) :: vs) ((kD k, d) :: ds)
inductive RepTs (C : RC) (ι : List Addr) (M : Addr → Prop) (H : Hp) : List (NestedKey × Addr × V) → List (D × D) → Prop
  | nil : RepTs C ι M H [] []
  | cons {k : NestedKey} {b : Addr} {v : V} {vs : List (NestedKey × Addr × V)} {d : D} {ds : List (D × D)} : TupKey k → Rep C ι M H (.ref b) (nkD k) → Rep C ι M H v d → RepTs C ι M H vs ds → RepTs C ι M H ((k, b, v) :: vs) ((nkD k, d) :: ds)
inductive RepGs (C : RC) (ι : List Addr) (M : Addr → Prop) (H : Hp) : List (Str × V) → List (D × D) → Prop
  | nil : RepGs C ι M H [] []
  | cons {x : Str} {v : V} {vs : List (Str × V)} {d : D} {ds : List (D × D)} : Rep C ι M H v d → RepGs C ι M H vs ds → RepGs C ι M H ((x, v) :: vs) ((.str x, d) :: ds)
inductive RepFs (C : RC) (ι : List Addr) (M : Addr → Prop) (H : Hp) : List (Str × V) → List (Str × D) → Prop
  | nil : RepFs C ι M H [] []
  | cons {x : Str} {v : V} {vs : List (Str × V)} {d : D} {ds : List (Str × D)} : Rep C ι M H v d → RepFs C ι M H vs ds → RepFs C ι M H ((x, v) :: vs) ((x, d) :: ds)
end

/-- how the scene may go on: shared objects are added, what stood stays (but the shared ones), what may change is new or could change before -/
structure Go (ι : List Addr) (M : Addr → Prop) (H : Hp) (ι' : List Addr) (M' : Addr → Prop) (H' : Hp) : Prop where
  pre : ∀ (n : Nat) (a : Addr), ι[n]? = some a → ι'[n]? = some a
  kept : ∀ a o, H a = some o → ¬ M a → H' a = some o
  new : ∀ a o, H a = some o → M' a → M a
  nw : ∀ a, a ∈ ι' → a ∈ ι ∨ H a = none
  live : ∀ a o, H a = some o → ∃ o', H' a = some o'

section
variable {C : RC} {ι ι' : List Addr} {M M' : Addr → Prop} {H H' : Hp}
theorem Go.rd (g : Go ι M H ι' M' H') {a : Addr} {u : HO} (m : ¬ M a) (r : Rd H a u) : ¬ M' a ∧ Rd H' a u := by
  rcases r with r | ⟨o, r⟩
  · exact ⟨fun z => m (g.new _ _ r z), .inl (g.kept _ _ r m)⟩
  · exact ⟨fun z => m (g.new _ _ r z), .inr ⟨o, g.kept _ _ r m⟩⟩
theorem TupAt.go {a : Addr} {vs : List V} (h : TupAt C M H a vs) (g : Go ι M H ι' M' H') : TupAt C M' H' a vs := h.elim (fun x => let ⟨o, q, d⟩ := x.2; .inl ⟨fun z => x.1 (g.new _ _ q z), o, g.kept _ _ q x.1, d⟩) .inr
theorem LstAt.go {a : Addr} {vs : List V} (h : LstAt C M H a vs) (g : Go ι M H ι' M' H') : LstAt C M' H' a vs := h.elim (fun x => .inl (g.rd x.1 x.2)) .inr
mutual
theorem Rep.go (g : Go ι M H ι' M' H') : ∀ {d : D} {v : V}, Rep C ι M H v d → Rep C ι' M' H' v d
  | _, _, .non => .non
  | _, _, .bl b => .bl b
  | _, _, .int i => .int i
  | _, _, .str x => .str x
  | _, _, .tup h r => .tup (h.go g) (Reps.go g r)
  | _, _, .lst m h r => .lst (fun z => m (g.new _ _ h z)) (g.kept _ _ h m) (Reps.go g r)
  | _, _, .scr h r => .scr (h.go g) (Reps.go g r)
  | _, _, .dctK m h r => .dctK (fun z => m (g.new _ _ h z)) (g.kept _ _ h m) (RepKs.go g r)
  | _, _, .dctT m h r => .dctT (fun z => m (g.new _ _ h z)) (g.kept _ _ h m) (RepTs.go g r)
  | _, _, .dctG h r => .dctG h (RepGs.go g r)
  | _, _, .ins m h r => .ins (fun z => m (g.new _ _ h z)) (g.kept _ _ h m) (RepFs.go g r)
  | _, _, .ref h => .ref (g.pre _ _ h)
theorem Reps.go (g : Go ι M H ι' M' H') : ∀ {ds : List D} {vs : List V}, Reps C ι M H vs ds → Reps C ι' M' H' vs ds
  | _, _, .nil => .nil
  | _, _, .cons h r => .cons (Rep.go g h) (Reps.go g r)
theorem RepKs.go (g : Go ι M H ι' M' H') : ∀ {ds : List (D × D)} {vs : List (Key × V)}, RepKs C ι M H vs ds → RepKs C ι' M' H' vs ds
  | _, _, .nil => .nil
  | _, _, .cons h r => .cons (Rep.go g h) (RepKs.go g r)
theorem RepTs.go (g : Go ι M H ι' M' H') : ∀ {ds : List (D × D)} {vs : List (NestedKey × Addr × V)}, RepTs C ι M H vs ds → RepTs C ι' M' H' vs ds
  | _, _, .nil => .nil
  | _, _, .cons t h0 h r => .cons t (Rep.go g h0) (Rep.go g h) (RepTs.go g r)
theorem RepGs.go (g : Go ι M H ι' M' H') : ∀ {ds : List (D × D)} {vs : List (Str × V)}, RepGs C ι M H vs ds → RepGs C ι' M' H' vs ds
  | _, _, .nil => .nil
  | _, _, .cons h r => .cons (Rep.go g h) (RepGs.go g r)
theorem RepFs.go (g : Go ι M H ι' M' H') : ∀ {ds : List (Str × D)} {vs : List (Str × V)}, RepFs C ι M H vs ds → RepFs C ι' M' H' vs ds
  | _, _, .nil => .nil
  | _, _, .cons h r => .cons (Rep.go g h) (RepFs.go g r)
end
theorem Go.refl : Go ι M H ι M H := ⟨fun _ _ h => h, fun _ _ h _ => h, fun _ _ _ h => h, fun _ h => .inl h, fun _ o h => ⟨o, h⟩⟩
theorem Go.trans {ι'' : List Addr} {M'' : Addr → Prop} {H'' : Hp} (g : Go ι M H ι' M' H') (f : Go ι' M' H' ι'' M'' H'') : Go ι M H ι'' M'' H'' :=
  ⟨fun n a h => f.pre n a (g.pre n a h), fun a o h m => f.kept a o (g.kept a o h m) fun z => m (g.new a o h z), fun a o h z =>
    Classical.byContradiction fun m => m (g.new a o h (f.new a o (g.kept a o h m) z)),
   fun a h => (f.nw a h).elim (g.nw a) fun n => .inr (by
    cases e : H a with
    | none => rfl
    | some o => obtain ⟨o', q⟩ := g.live a o e; rw [n] at q; cases q), fun a o h => let ⟨o', q⟩ := g.live a o h; f.live a o' q⟩
/-- a new object -/
theorem Go.laid {p : Addr} {o : HO} (hp : H p = none) : Go ι M H ι M (upd H p o) :=
  ⟨fun _ _ h => h, fun a u h _ => by rw [upd_ne (ne_of_none h hp)]; exact h, fun _ _ _ h => h, fun _ h => .inl h, fun a u h => ⟨u, by rw [upd_ne (ne_of_none h hp)]; exact h⟩⟩
/-- less may change -/
theorem Go.less (h : ∀ a, M' a → M a) : Go ι M H ι M' H := ⟨fun _ _ h => h, fun _ _ h _ => h, fun a _ _ z => h a z, fun _ h => .inl h, fun _ o h => ⟨o, h⟩⟩
/-- what may change is changed -/
theorem Go.write {p : Addr} {o : HO} (hp : M p) : Go ι M H ι M (upd H p o) :=
  ⟨fun _ _ h => h, fun a u h m => by rw [upd_ne (show a ≠ p from fun e => m (by rw [e]; exact hp))]; exact h, fun _ _ _ h => h, fun _ h => .inl h, fun a u h => by
    by_cases e : a = p
    · exact ⟨o, by rw [e]; exact upd_same⟩
    · exact ⟨u, by rw [upd_ne e]; exact h⟩⟩

theorem Reps.length : ∀ {ds : List D} {vs : List V}, Reps C ι M H vs ds → vs.length = ds.length
  | _, _, .nil => rfl
  | _, _, .cons _ r => congrArg (· + 1) r.length
theorem Reps.get : ∀ {ds : List D} {vs : List V}, Reps C ι M H vs ds → ∀ {i : Nat} {d : D}, ds[i]? = some d → ∃ v, vs[i]? = some v ∧ Rep C ι M H v d
  | _, _, .nil, _, _, e => by simp at e
  | _, _, .cons h _, 0, _, e => by simp at e; subst e; exact ⟨_, rfl, h⟩
  | _, _, .cons _ r, i + 1, d, e => by
    obtain ⟨v, h1, h2⟩ := r.get (i := i) (d := d) (by simpa using e)
    exact ⟨v, by simpa using h1, h2⟩
theorem Reps.append : ∀ {ds es : List D} {vs us : List V}, Reps C ι M H vs ds → Reps C ι M H us es → Reps C ι M H (vs ++ us) (ds ++ es)
  | _, _, _, _, .nil, s => s
  | _, _, _, _, .cons h r, s => .cons h (r.append s)
theorem Reps.snoc {ds : List D} {vs : List V} {v : V} {d : D} (r : Reps C ι M H vs ds) (h : Rep C ι M H v d) : Reps C ι M H (vs ++ [v]) (ds ++ [d]) := r.append (.cons h .nil)
end
end MP

set_option maxRecDepth 100000
/-! MP2: the small language and what it computes. -/
namespace MP
open PySem L2

/-! ### the language -/
inductive Bop where | add | sub | mul | fdiv | mod | pow | band
inductive Cop where | eq | ne | lt | le | gt | ge | inn | nin | isn | notn
/-- built-in functions and types that are called -/
inductive Blt where | len | int | list | tuple | abs | max | min | str | bool | dict | all
/-- methods of built-in objects that change nothing -/
inductive Bmt where | lindex | tindex | lcount | get | upper | join
/-- what is sorted by -/
inductive Srt where | str | len
inductive Ty where | int | str | bool | list | tuple | cls (c : Nat)
inductive Pat where | nm (i : Nat) | tp (l : List Nat)

mutual
inductive M where
  | var (i : Nat) | cst (d : D) | glo (g : Nat)
  | bin (op : Bop) (a b : M) | neg (a : M) | cmp (op : Cop) (a b : M) | chn (op op' : Cop) (a b c : M)
  | andd (a b : M) | orr (a b : M) | nott (a : M)
  | tup (l : Ms) | lst (l : Ms) | dct (l : Kvs)
  | idx (a b : M) | slc (a : M) (lo hi : Mo) | rev (a : M) | att (a : M) (f : Str)
  | call (f : Nat) (l : Ms) | mk (c : Nat) (l : Ms) | mth (o : M) (m : Str) (l : Ms)
  | blt (b : Blt) (l : Ms) | bm (b : Bmt) (o : M) (l : Ms) | isi (a : M) (t : Ty)
  | lrng (g : It) | lc (ws : List Nat) (elt : M) (p : Pat) (it : It) (cs : Ts) | lc2 (ws ws1 : List Nat) (elt : M) (p : Pat) (it : It) (cs : Ts) (p1 : Pat) (it1 : It) (cs1 : Ts) | dc (ws : List Nat) (k v : M) (p : Pat) (it : It) (cs : Ts)
  | srt (k : Srt) (m : M) | slen (ws : List Nat) (elt : M) (p : Pat) (it : It)
inductive Ms where | nil | cons (m : M) (l : Ms)
inductive Mo where | no | so (m : M)
inductive Kvs where | nil | cons (k v : M) (l : Kvs)
/-- a test -/
inductive T where | v (m : M) | and (a b : T) | or (a b : T) | not (a : T)
inductive Ts where | nil | cons (c : T) (l : Ts)
/-- what is walked -/
inductive It where | val (m : M) | rng (a : M) | rng2 (a b : M) | enum (m : M) | zip (a b : M)
end

mutual
inductive S where
  | expr (a : M) | set (i : Nat) (a : M) | setN (i : Nat) (a : M) | unp (is : List Nat) (a : M) | par (i j : Nat) (a b : M)
  | put (i : Nat) (k v : M) | putS (o k v : M) | satt (o : M) (f : Str) (v : M) | aug (i : Nat) (op : Bop) (a : M)
  | iff (c : T) (a b : Ss) | whl (c : T) (b : Ss) | forr (p : Pat) (it : It) (b : Ss)
  | ret (a : M) | retn | brk | cnt | pass
  | app (i : Nat) (a : M) | ext (i : Nat) (a : M) | pop (j i : Nat)
  | never | frz (i : Nat) | wip (is : List Nat)
  | retF (a : M) | retO (i : Nat) | sattN (i : Nat) (f : Str) (v : M) | putO (o k v : M) | clr (i : Nat)
inductive Ss where | nil | cons (s : S) (l : Ss)
end

def Kvs.len : Kvs → Nat
  | .nil => 0
  | .cons _ _ l => l.len + 1
def Ms.len : Ms → Nat
  | .nil => 0
  | .cons _ l => l.len + 1

/-! ### results -/
abbrev MH := List D
inductive R (α : Type) where
  | ok (a : α) (h : MH) | ex (c : Nat) (fs : List (Str × D)) (h : MH) | no
@[inline] def R.bind {α β : Type} (x : R α) (f : α → MH → R β) : R β := match x with
  | .ok a h => f a h
  | .ex c fs h => .ex c fs h
  | .no => .no
def R.of {α : Type} (o : Option α) (h : MH) : R α := match o with
  | some a => .ok a h
  | none => .no
inductive Slot where | no | val (d : D) | own (d : D)
abbrev Ev := List Slot
/-- how a statement ends -/
inductive O where
  | nx (e : Ev) (h : MH) | rt (d : D) (h : MH) | rtF (d : D) (h : MH) | bk (e : Ev) (h : MH) | ct (e : Ev) (h : MH) | ex (c : Nat) (fs : List (Str × D)) (e : Ev) (h : MH) | no

/-- what the text's classes and constants are -/
structure Tb where
  meth : Nat → Str → Option Nat
  /-- a field's name, no class of it has it -/
  fld : Nat → Str → Bool
  init : Nat → Option Nat
  sub : Nat → Nat → Bool
  glo : Nat → D
  /-- the defaults that are added where so many arguments are given -/
  dfl : Nat → Nat → List D
  /-- bound of a while's turns -/
  N : Nat

/-! ### values -/
abbrev lim : Nat := 10000000
mutual
def fit : D → Nat → Bool
  | .non, _ => true
  | .bl _, _ => true
  | .int _, _ => true
  | .str x, _ => PySem.PyData.strOk x
  | .tup l, k => (match k with | 0 => false | k + 1 => fitL l k)
  | .lst l, k => (match k with | 0 => false | k + 1 => fitL l k)
  | _, _ => false
def fitL : List D → Nat → Bool
  | [], _ => true
  | d :: r, k => fit d k && fitL r k
end
mutual
def eqD : D → D → Bool
  | .non, .non => true
  | .bl a, .bl b => a == b
  | .bl a, .int j => decide ((if a then 1 else 0) = j)
  | .int i, .bl b => decide (i = (if b then 1 else 0))
  | .int i, .int j => decide (i = j)
  | .str x, .str y => decide (x = y)
  | .tup l, .tup m => eqDL l m
  | .lst l, .lst m => eqDL l m
  | _, _ => false
def eqDL : List D → List D → Bool
  | [], [] => true
  | x :: xs, y :: ys => eqD x y && eqDL xs ys
  | _, _ => false
end
/-- keys: 0 an int or a text, 1 a nested tuple -/
def kk : D → Nat
  | .int _ => 0
  | .str _ => 0
  | .tup l => (match D.nkl l with
    | some k => if (NestedKey.tup k).depth ≤ 8 then 1 else 2
    | none => 2)
  | _ => 2
def dget (l : List (D × D)) (k : D) : Option D := (l.find? fun p => eqD p.1 k).map (·.2)
def dput : List (D × D) → D → D → List (D × D)
  | [], k, v => [(k, v)]
  | (a, b) :: r, k, v => if eqD a k then (a, v) :: r else (a, b) :: dput r k v
/-- k may be asked of (put into) a dict of l -/
def kfit (l : List (D × D)) (k : D) : Bool := match l with
  | [] => kk k != 2
  | (a, _) :: _ => kk k != 2 && kk a == kk k
def flatD : D → Bool
  | .non | .bl _ | .int _ | .str _ => true
  | _ => false

def binD : Bop → D → D → Option D
  | .add, .int i, .int j => some (.int (i + j))
  | .add, .str x, .str y => if x.length + y.length ≤ lim then some (.str (x ++ y)) else none
  | .add, .tup a, .tup b => if a.length + b.length ≤ lim then some (.tup (a ++ b)) else none
  | .add, .lst a, .lst b => if a.length + b.length ≤ lim then some (.lst (a ++ b)) else none
  | .sub, .int i, .int j => some (.int (i - j))
  | .mul, .int i, .int j => if (-18446744073709551616 < i ∧ i < 18446744073709551616) ∨ (-18446744073709551616 < j ∧ j < 18446744073709551616) then some (.int (i * j)) else none
  | .fdiv, .int i, .int j => if 0 < j ∧ j < 1073741824 then some (.int (i / j)) else none
  | .mod, .int i, .int j => if 0 < j then some (.int (i % j)) else none
  | .pow, .int i, .int j => if 0 ≤ j ∧ j ≤ 1000000 ∧ i.natAbs < 18446744073709551616 then some (.int (i ^ j.toNat)) else none
  | .band, .int i, .int j => some (.int (Builtin.bitAnd i j))
  | _, _, _ => none
/-- x in y -/
def inD : D → D → Option Bool
  | x, .lst l => if fit x 60 && fitL l 60 then some (l.any fun z => eqD z x) else none
  | x, .tup l => if flatD x && l.all flatD then some (l.any fun z => eqD z x) else none
  | x, .dct l => if kfit l x then some (dget l x).isSome else none
  | .str x, .str y => (match x.cps.toList with
    | [c] => some (decide (c ∈ y.cps.toList))
    | _ => none)
  | _, _ => none
def eqO : D → D → Option Bool
  | .str x, .str y => some (decide (x = y))
  | x, y => if fit x 60 && fit y 60 then some (eqD x y) else none
def cmpD : Cop → D → D → Option Bool
  | .eq, x, y => eqO x y
  | .ne, x, y => (eqO x y).map (!·)
  | .lt, .int i, .int j => some (decide (i < j))
  | .le, .int i, .int j => some (decide (i ≤ j))
  | .gt, .int i, .int j => some (decide (j < i))
  | .ge, .int i, .int j => some (decide (j ≤ i))
  | .inn, x, y => inD x y
  | .nin, x, y => (inD x y).map (!·)
  | .isn, .non, .non => some true
  | .isn, _, .non => some false
  | .notn, .non, .non => some false
  | .notn, _, .non => some true
  | _, _, _ => none
def idxD : D → D → Option D
  | .lst l, .int i => L2.atI l i
  | .tup l, .int i => L2.atI l i
  | .scr l, .int i => L2.atI l i
  | .str x, .int i => if x.length ≤ lim then (L2.atI x.cps.toList i).map fun c => .str ⟨#[c]⟩ else none
  | .dct l, k => if kfit l k then dget l k else none
  | _, _ => none
def cutL {α : Type} (xs : List α) (lo hi : Option Int) : List α := (xs.drop (HT.sIx xs.length 0 lo)).take (HT.sIx xs.length xs.length hi - HT.sIx xs.length 0 lo)
def slcD : D → Option Int → Option Int → Option D
  | .lst l, lo, hi => some (.lst (cutL l lo hi))
  | .tup l, lo, hi => some (.tup (cutL l lo hi))
  | .str x, lo, hi => if x.length ≤ lim then some (.str (L2.cutS x lo hi)) else none
  | _, _, _ => none
def truD : D → Option Bool
  | .non => some false
  | .bl b => some b
  | .int i => some (i != 0)
  | .str x => if x.length ≤ lim then some (x.length != 0) else none
  | .lst l => some (!l.isEmpty)
  | .tup l => some (!l.isEmpty)
  | _ => none
def itemsD : D → Option (List D)
  | .lst l => some l
  | .tup l => some l
  | .dct l => some (l.map (·.1))
  | _ => none
def allBl : List D → Option Bool
  | [] => some true
  | .bl b :: r => (allBl r).map (b && ·)
  | _ :: _ => none
def bltD : Blt → List D → Option D
  | .len, [.str x] => if x.length ≤ lim then some (.int x.length) else none
  | .len, [.scr l] => some (.int l.length)
  | .len, [.lst l] => some (.int l.length)
  | .len, [.tup l] => some (.int l.length)
  | .len, [.dct l] => some (.int l.length)
  | .int, [.int i] => some (.int i)
  | .int, [.bl b] => some (.int (if b then 1 else 0))
  | .list, [.lst l] => some (.lst l)
  | .list, [.tup l] => some (.lst l)
  | .list, [.dct l] => some (.lst (l.map (·.1)))
  | .dict, [.dct l] => if (l.all fun p => kk p.1 == 0) then some (.dct l) else none
  | .all, [.lst l] => (allBl l).map .bl
  | .tuple, [.lst l] => some (.tup l)
  | .tuple, [.tup l] => some (.tup l)
  | .abs, [.int i] => some (.int (if i < 0 then -i else i))
  | .max, [.int i, .int j] => some (.int (if j > i then j else i))
  | .min, [.int i, .int j] => some (.int (if j < i then j else i))
  | .str, [.str x] => some (.str x)
  | .str, [.int i] => if i.natAbs < 2 ^ 64 then some (.str (toString i)) else none
  | .bool, [.bl b] => some (.bl b)
  | .bool, [.int i] => some (.bl (i != 0))
  | _, _ => none
def indexD (l : List D) (x : D) : Option Nat := if fit x 60 && fitL l 60 then l.findIdx? (fun z => eqD z x) else none
def isStrD : D → Bool
  | .str _ => true
  | _ => false
def bmD : Bmt → D → List D → Option D
  | .lindex, .lst l, [x] => (indexD l x).map fun (j : Nat) => .int j
  | .tindex, .tup l, [.str x] => if l.all isStrD then (l.findIdx? fun z => eqD z (.str x)).map fun (j : Nat) => .int j else none
  | .lcount, .lst l, [x] => if fit x 60 && fitL l 60 then some (.int (l.countP fun z => eqD z x)) else none
  | .get, .dct l, [k, v] => if kfit l k then some ((dget l k).getD v) else none
  | _, _, _ => none
/-- what a method is of -/
def kindT : D → Option String
  | .str _ => some "str"
  | .lst _ => some "list"
  | .tup _ => some "tuple"
  | .dct _ => some "dict"
  | _ => none
def bmK : Bmt → String
  | .lindex => "list" | .tindex => "tuple" | .lcount => "list" | .get => "dict" | .upper => "str" | .join => "str"
def isD (tb : Tb) : D → Ty → Option Bool
  | .int _, .int => some true
  | .bl _, .int => some true
  | .bl _, .bool => some true
  | .str _, .str => some true
  | .lst _, .list => some true
  | .tup _, .tuple => some true
  | .ins c _, .cls t => some (tb.sub c t)
  | .non, _ => some false
  | .bl _, _ => some false
  | .int _, _ => some false
  | .str _, _ => some false
  | .lst _, _ => some false
  | .tup _, _ => some false
  | .ins _ _, _ => some false
  | _, _ => none
def rngL (a b : Int) : List D := (List.range (b - a).toNat).map fun (k : Nat) => .int (a + (k : Int))
def rngOk (i : Int) : Bool := decide (-4611686018427387904 ≤ i ∧ i < 4611686018427387904)
def fget (fs : List (Str × D)) (f : Str) : Option D := fs.lookup f
def fput (f : Str) (v : D) : List (Str × D) → List (Str × D)
  | [] => [(f, v)]
  | (g, u) :: r => if g = f then (g, v) :: r else (g, u) :: fput f v r

mutual
/-- no shared object from n on is named -/
def low (n : Nat) : D → Bool
  | .ref k => decide (k < n)
  | .tup l => lowL n l
  | .lst l => lowL n l
  | .scr l => lowL n l
  | .dct l => lowK n l
  | .ins _ fs => lowF n fs
  | _ => true
def lowL (n : Nat) : List D → Bool
  | [] => true
  | d :: r => low n d && lowL n r
def lowK (n : Nat) : List (D × D) → Bool
  | [] => true
  | (a, b) :: r => low n a && low n b && lowK n r
def lowF (n : Nat) : List (Str × D) → Bool
  | [] => true
  | (_, b) :: r => low n b && lowF n r
end
/-- a field's value, content in the place of a shared object from n on -/
def thaw (n : Nat) (h : MH) : D → Option D
  | .ref k => if k < n then some (.ref k) else (match h[k]? with
    | some (.ins _ _) => none
    | some d => if low n d then some d else none
    | none => none)
  | d => if low n d then some d else none
def thawF (n : Nat) (h : MH) : List (Str × D) → Option (List (Str × D))
  | [] => some []
  | (f, d) :: r => match thaw n h d, thawF n h r with
    | some e, some s => some ((f, e) :: s)
    | _, _ => none
/-- the instance at n, all of it content, the heap as before -/
def frozen (n : Nat) (h : MH) : R D := match h[n]? with
  | some (.ins c fs) => (match thawF n h fs with
    | some gs => if (h.take n).all (low n) then .ok (.ins c gs) (h.take n) else .no
    | none => .no)
  | _ => .no

/-! ### what it computes -/
section
variable (tb : Tb) (Φ : Nat → List D → MH → R D)
/-- what a shared object holds -/
def view (d : D) (h : MH) : Option D := match d with
  | .ref n => h[n]?
  | d => some d
def bindP (p : Pat) (d : D) (e : Ev) : Option Ev := match p, d with
  | .nm i, d => some (e.set i (.val d))
  | .tp is, .tup l => if is.length = l.length then some ((is.zip l).foldl (fun e q => e.set q.1 (.val q.2)) e) else none
  | _, _ => none
def wipeE (e : Ev) (ws : List Nat) : Ev := ws.foldl (fun e i => e.set i .no) e
/-- no slot of these is own -/
def noOwn (e : Ev) (ws : List Nat) : Bool := ws.all fun i => match e[i]? with
  | some (.own _) => false
  | _ => true
def patIn (ws : List Nat) : Pat → Bool
  | .nm i => ws.contains i
  | .tp l => l.all (ws.contains ·)
def pairsD : List D → List D → List D
  | a :: r, b :: s => .tup [a, b] :: pairsD r s
  | _, _ => []
def enumD (k : Nat) : List D → List D
  | [] => []
  | a :: r => .tup [.int k, a] :: enumD (k + 1) r

/-- an operand: a value, or an own list or dict by its slot -/
inductive Od where | d (d : D) | own (i : Nat)
/-- (r is what m computes) -/
def opd (m : M) (r : R D) (e : Ev) (h : MH) : R Od := match m with
  | .var i => (match e[i]? with
    | some (.val d) => .ok (.d d) h
    | some (.own _) => .ok (.own i) h
    | _ => .no)
  | _ => r.bind fun d h => .ok (.d d) h
/-- an own method of an operand, called by the machine -/
def ownR (c : Nat) (m : Str) (x : Od) (ds : List D) (h : MH) : R D := match x, tb.meth c m with
  | .d o, some f => Φ f (o :: ds) h
  | _, _ => .no
/-- an operand's content -/
def vo (e : Ev) (h : MH) : Od → Option D
  | .d d => view d h
  | .own i => (match e[i]? with
    | some (.own d) => some d
    | _ => none)
/-- .. of what is walked -/
def vi (e : Ev) : Od → Option D
  | .d (.ref _) => none
  | .d d => some d
  | .own _ => none
def vos (e : Ev) (h : MH) : List Od → Option (List D)
  | [] => some []
  | o :: r => match vo e h o, vos e h r with
    | some d, some l => some (d :: l)
    | _, _ => none
/-- the turns of a comprehension's clause: f is a turn, acc what is made -/
def turns {α : Type} (f : D → α → MH → R α) : List D → α → MH → R α
  | [], acc, h => .ok acc h
  | d :: r, acc, h => (f d acc h).bind fun acc h => turns f r acc h

mutual
def ev : M → Ev → MH → R D
  | .var i, e, h => (match e[i]? with
    | some (.val d) => .ok d h
    | _ => .no)
  | .cst d, _, h => .ok d h
  | .glo g, _, h => .ok (tb.glo g) h
  | .bin op a b, e, h => (opd a (ev a e h) e h).bind fun x h => (opd b (ev b e h) e h).bind fun y h => (match vo e h x, vo e h y with
    | some x, some y => .of (binD op x y) h
    | _, _ => .no)
  | .neg a, e, h => (ev a e h).bind fun x h => (match x with
    | .int i => .ok (.int (-i)) h
    | _ => .no)
  | .cmp op a b, e, h => (opd a (ev a e h) e h).bind fun x h => (opd b (ev b e h) e h).bind fun y h => (match vo e h x, vo e h y with
    | some x, some y => .of ((cmpD op x y).map D.bl) h
    | _, _ => .no)
  | .chn op op' a b c, e, h => (opd a (ev a e h) e h).bind fun x h => (opd b (ev b e h) e h).bind fun y h => (match vo e h x, vo e h y with
    | some dx, some dy => (match cmpD op dx dy with
      | some true => (opd c (ev c e h) e h).bind fun z h => (match vo e h y, vo e h z with
        | some dy, some dz => .of ((cmpD op' dy dz).map D.bl) h
        | _, _ => .no)
      | some false => .ok (.bl false) h
      | none => .no)
    | _, _ => .no)
  | .andd a b, e, h => (ev a e h).bind fun x h => (match x with
    | .bl true => ev b e h
    | .bl false => .ok (.bl false) h
    | _ => .no)
  | .orr a b, e, h => (ev a e h).bind fun x h => (match x with
    | .bl false => ev b e h
    | .bl true => .ok (.bl true) h
    | _ => .no)
  | .nott a, e, h => (ev a e h).bind fun x h => (match x with
    | .bl b => .ok (.bl (!b)) h
    | _ => .no)
  | .tup l, e, h => (evs l e h).bind fun ds h => if ds.length ≤ lim then .ok (.tup ds) h else .no
  | .lst l, e, h => (evs l e h).bind fun ds h => if ds.length ≤ lim then .ok (.lst ds) h else .no
  | .dct l, e, h => evd l e [] h
  | .idx a b, e, h => (opd a (ev a e h) e h).bind fun x h => (ev b e h).bind fun y h => (match vo e h x with
    | some (.ins c _) => ownR tb Φ c "__getitem__" x [y] h
    | some x => .of (idxD x y) h
    | none => .no)
  | .slc a lo hi, e, h => (opd a (ev a e h) e h).bind fun x h => (evo lo e h).bind fun l h => (evo hi e h).bind fun u h => (match vo e h x with
    | some x => .of (slcD x l u) h
    | none => .no)
  | .rev a, e, h => (opd a (ev a e h) e h).bind fun x h => (match vo e h x with
    | some (.lst l) => .ok (.lst l.reverse) h
    | some (.tup l) => .ok (.tup l.reverse) h
    | _ => .no)
  | .att a f, e, h => (ev a e h).bind fun x h => (match view x h with
    | some (.ins c fs) => if tb.fld c f then .of (fget fs f) h else .no
    | _ => .no)
  | .call f l, e, h => (evs l e h).bind fun ds h => Φ f (ds ++ tb.dfl f ds.length) h
  | .mk c l, e, h => (evs l e h).bind fun ds h => (match tb.init c with
    | some f => (Φ f (.ref h.length :: (ds ++ tb.dfl f (ds.length + 1))) (h ++ [.ins c []])).bind fun r h' => (match r with
      | .non => frozen h.length h'
      | _ => .no)
    | none => .no)
  | .mth o m l, e, h => (ev o e h).bind fun x h => (match view x h with
    | some (.ins c fs) => (match fget fs m, tb.meth c m with
      | none, some f => (evs l e h).bind fun ds h => Φ f (x :: ds) h
      | _, _ => .no)
    | _ => .no)
  | .blt b l, e, h => (evOs l e h).bind fun os h => (match vos e h os with
    | some ds => .of (bltD b ds) h
    | none => .no)
  | .bm b o l, e, h => (opd o (ev o e h) e h).bind fun x h => (match vo e h x with
    | some d0 => if decide (kindT d0 = some (bmK b)) then (evs l e h).bind fun ds h => (match vo e h x with
      | some x => .of (bmD b x ds) h
      | none => .no) else .no
    | none => .no)
  | .isi a t, e, h => (opd a (ev a e h) e h).bind fun x h => (match vo e h x with
    | some x => .of ((isD tb x t).map D.bl) h
    | none => .no)
  | .lrng g, e, h => (evI g e h).bind fun ds h => if ds.length ≤ lim then .ok (.lst ds) h else .no
  | .lc ws elt p it cs, e, h => if noOwn e ws && patIn ws p then (evI it e h).bind fun ds h => (turns (fun d acc h => (match bindP p d (wipeE e ws) with
      | some e' => (evC cs e' h).bind fun b h => if b then (ev elt e' h).bind fun y h => (if acc.length < lim then .ok (acc ++ [y]) h else .no) else .ok acc h
      | none => .no)) ds [] h).bind fun acc h => .ok (.lst acc) h else .no
  | .lc2 ws ws1 elt p it cs p1 it1 cs1, e, h => if noOwn e ws && patIn ws p && patIn ws1 p1 && ws1.all (ws.contains ·) then (evI it e h).bind fun ds h => (turns (fun d acc h => (match bindP p d (wipeE e ws) with
      | some e' => (evC cs e' h).bind fun b h => if b then (evI it1 e' h).bind fun ds1 h => turns (fun d acc h => (match bindP p1 d (wipeE e' ws1) with
          | some e2 => (evC cs1 e2 h).bind fun b h => if b then (ev elt e2 h).bind fun y h => (if acc.length < lim then .ok (acc ++ [y]) h else .no) else .ok acc h
          | none => .no)) ds1 acc h else .ok acc h
      | none => .no)) ds [] h).bind fun acc h => .ok (.lst acc) h else .no
  | .dc ws k v p it cs, e, h => if noOwn e ws && patIn ws p then (evI it e h).bind fun ds h => (turns (fun d acc h => (match bindP p d (wipeE e ws) with
      | some e' => (evC cs e' h).bind fun b h => if b then (ev k e' h).bind fun x h => (ev v e' h).bind fun y h => (if kk x == 0 && decide (acc.length < lim) then .ok (dput acc x y) h else .no) else .ok acc h
      | none => .no)) ds [] h).bind fun acc h => .ok (.dct acc) h else .no
  | .srt _ _, _, _ => .no
  | .slen _ _ _ _, _, _ => .no
def evs : Ms → Ev → MH → R (List D)
  | .nil, _, h => .ok [] h
  | .cons m l, e, h => (ev m e h).bind fun d h => (evs l e h).bind fun ds h => .ok (d :: ds) h
def evOs : Ms → Ev → MH → R (List Od)
  | .nil, _, h => .ok [] h
  | .cons m l, e, h => (opd m (ev m e h) e h).bind fun d h => (evOs l e h).bind fun ds h => .ok (d :: ds) h
def evd : Kvs → Ev → List (D × D) → MH → R D
  | .nil, _, acc, h => .ok (.dct acc) h
  | .cons k v l, e, acc, h => (ev k e h).bind fun x h => (ev v e h).bind fun y h => if kk x == 0 then evd l e (dput acc x y) h else .no
def evo : Mo → Ev → MH → R (Option Int)
  | .no, _, h => .ok none h
  | .so m, e, h => (ev m e h).bind fun d h => (match d with
    | .int i => .ok (some i) h
    | _ => .no)
def evI : It → Ev → MH → R (List D)
  | .val m, e, h => (opd m (ev m e h) e h).bind fun x h => .of ((vi e x).bind itemsD) h
  | .rng a, e, h => (ev a e h).bind fun d h => (match d with
    | .int j => if rngOk j then .ok (rngL 0 j) h else .no
    | _ => .no)
  | .rng2 a b, e, h => (ev a e h).bind fun x h => (ev b e h).bind fun y h => (match x, y with
    | .int i, .int j => if rngOk i && rngOk j then .ok (rngL i j) h else .no
    | _, _ => .no)
  | .enum m, e, h => (ev m e h).bind fun d h => (match d with
    | .lst l => .ok (enumD 0 l) h
    | .tup l => .ok (enumD 0 l) h
    | _ => .no)
  | .zip a b, e, h => (ev a e h).bind fun x h => (ev b e h).bind fun y h => (match x, y with
    | .lst l, .lst m => .ok (pairsD l m) h
    | .tup l, .tup m => .ok (pairsD l m) h
    | _, _ => .no)
/-- a clause's tests -/
def evC : Ts → Ev → MH → R Bool
  | .nil, _, h => .ok true h
  | .cons c l, e, h => (evT c e h).bind fun b h => if b then evC l e h else .ok false h
/-- a test -/
def evT : T → Ev → MH → R Bool
  | .and a b, e, h => (evT a e h).bind fun x h => if x then evT b e h else .ok false h
  | .or a b, e, h => (evT a e h).bind fun x h => if x then .ok true h else evT b e h
  | .not a, e, h => (evT a e h).bind fun x h => .ok (!x) h
  | .v m, e, h => (opd m (ev m e h) e h).bind fun x h => .of ((vo e h x).bind truD) h
end
/-- an own list is walked -/
def ownIt (e : Ev) : It → Bool
  | .val (.var i) => (match e[i]? with
    | some (.own _) => true
    | _ => false)
  | _ => false
/-- a dict or list with v at k -/
def setD : D → D → D → Option D
  | .dct l, k, v => if kfit l k && decide (l.length < lim) then some (.dct (dput l k v)) else none
  | .lst l, .int i, v => (L2.ixN l.length i).map fun j => .lst (l.set j v)
  | _, _, _ => none
/-- op= -/
def augD : Bop → D → D → Option D
  | .add, .int x, .int y => some (.int (x + y))
  | .sub, .int x, .int y => some (.int (x - y))
  | _, _, _ => none
def freshD : D → Bool
  | .lst _ => true
  | .dct _ => true
  | _ => false
def loopW (c : Ev → MH → R Bool) (b : Ev → MH → O) : Nat → Ev → MH → O
  | 0, _, _ => .no
  | n + 1, e, h => (match c e h with
    | .ok true h => (match b e h with
      | .nx e h => loopW c b n e h
      | .ct e h => loopW c b n e h
      | .bk e h => .nx e h
      | o => o)
    | .ok false h => .nx e h
    | .ex c fs h => .ex c fs e h
    | .no => .no)
def loopF (f : D → Ev → MH → O) : List D → Ev → MH → O
  | [], e, h => .nx e h
  | d :: r, e, h => (match f d e h with
    | .nx e h => loopF f r e h
    | .ct e h => loopF f r e h
    | .bk e h => .nx e h
    | o => o)
/-- an expression's result within a statement -/
@[inline] def R.st {α : Type} (x : R α) (e : Ev) (f : α → MH → O) : O := match x with
  | .ok a h => f a h
  | .ex c fs h => .ex c fs e h
  | .no => .no
def O.of (o : Option Ev) (h : MH) : O := match o with
  | some e => .nx e h
  | none => .no
mutual
def exec : S → Ev → MH → O
  | .expr a, e, h => (ev tb Φ a e h).st e fun _ h => .nx e h
  | .set i a, e, h => (ev tb Φ a e h).st e fun d h => .nx (e.set i (.val d)) h
  | .setN i a, e, h => (ev tb Φ a e h).st e fun d h => if freshD d then .nx (e.set i (.own d)) h else .no
  | .unp is a, e, h => (ev tb Φ a e h).st e fun d h => .of (bindP (.tp is) d e) h
  | .par i j a b, e, h => (ev tb Φ a e h).st e fun x h => (ev tb Φ b e h).st e fun y h => .nx ((e.set i (.val x)).set j (.val y)) h
  | .put i k v, e, h => (ev tb Φ v e h).st e fun y h => (ev tb Φ k e h).st e fun x h => (match e[i]? with
    | some (.own d) => .of ((setD d x y).map fun d => e.set i (.own d)) h
    | _ => .no)
  | .putS o k v, e, h => (ev tb Φ v e h).st e fun y h => (ev tb Φ o e h).st e fun r h => (ev tb Φ k e h).st e fun x h => (match r with
    | .ref n => (match (h[n]?).bind fun d => setD d x y with
      | some d => .nx e (h.set n d)
      | none => .no)
    | _ => .no)
  | .satt o f v, e, h => (ev tb Φ v e h).st e fun y h => (ev tb Φ o e h).st e fun r h => (match r with
    | .ref n => (match h[n]? with
      | some (.ins c fs) => if fs.length < 900 && tb.fld c f then .nx e (h.set n (.ins c (fput f y fs))) else .no
      | _ => .no)
    | _ => .no)
  | .aug i op a, e, h => (match e[i]? with
    | some (.val x) => (ev tb Φ a e h).st e fun y h => (match augD op x y with
      | some z => .nx (e.set i (.val z)) h
      | none => .no)
    | _ => .no)
  | .iff c a b, e, h => (evT tb Φ c e h).st e fun t h => if t then execs a e h else execs b e h
  | .whl c b, e, h => loopW (fun e h => evT tb Φ c e h) (fun e h => execs b e h) tb.N e h
  | .forr p it b, e, h => if ownIt e it then .no else (evI tb Φ it e h).st e fun ds h => loopF (fun d e h => (match bindP p d e with
    | some e => execs b e h
    | none => .no)) ds e h
  | .ret a, e, h => (ev tb Φ a e h).st e fun d h => .rt d h
  | .retn, _, h => .rt .non h
  | .brk, e, h => .bk e h
  | .cnt, e, h => .ct e h
  | .pass, e, h => .nx e h
  | .app i a, e, h => (ev tb Φ a e h).st e fun y h => (match e[i]? with
    | some (.own (.lst l)) => if l.length < lim then .nx (e.set i (.own (.lst (l ++ [y])))) h else .no
    | _ => .no)
  | .ext i a, e, h => (match e[i]? with
    | some (.own (.lst _)) => (ev tb Φ a e h).st e fun y h => (match e[i]?, y with
      | some (.own (.lst l)), .lst m => if l.length + m.length ≤ lim then .nx (e.set i (.own (.lst (l ++ m)))) h else .no
      | _, _ => .no)
    | _ => .no)
  | .pop j i, e, h => (match e[i]? with
    | some (.own (.lst l)) => (match l.getLast? with
      | some d => if i = j then .no else .nx ((e.set i (.own (.lst l.dropLast))).set j (.val d)) h
      | none => .no)
    | _ => .no)
  | .never, _, _ => .no
  | .wip is, e, h => .nx (wipeE e is) h
  | .retF a, e, h => (ev tb Φ a e h).st e fun d h => if freshD d then .rtF d h else .no
  | .retO i, e, h => (match e[i]? with
    | some (.own d) => if freshD d then .rtF d h else .no
    | _ => .no)
  | .sattN i f v, e, h => (ev tb Φ v e h).st e fun y h => (match e[i]? with
    | some (.val (.ref n)) => (match h[n]? with
      | some (.ins c fs) => if fs.length < 900 && tb.fld c f && freshD y then .nx e (h.set n (.ins c (fput f (.ref h.length) fs)) ++ [y]) else .no
      | _ => .no)
    | _ => .no)
  | .putO o k v, e, h => (ev tb Φ v e h).st e fun y h => (ev tb Φ o e h).st e fun r h => (ev tb Φ k e h).st e fun x h => (match view r h with
    | some (.ins c _) => (match tb.meth c "__setitem__" with
      | some f => (Φ f [r, x, y] h).st e fun z h => (match z with
        | .non => .nx e h
        | _ => .no)
      | none => .no)
    | _ => .no)
  | .clr i, e, h => (match e[i]? with
    | some (.own (.lst _)) => .nx (e.set i (.own (.lst []))) h
    | _ => .no)
  | .frz i, e, h => (match e[i]? with
    | some (.own d) => if freshD d then .nx (e.set i (.val d)) h else .no
    | some (.val d) => .nx (e.set i (.val d)) h
    | _ => .no)
def execs : Ss → Ev → MH → O
  | .nil, e, h => .nx e h
  | .cons s l, e, h => (match exec s e h with
    | .nx e h => execs l e h
    | o => o)
end
end
/-! ### defs -/
structure Fd where
  /-- parameters, names in all -/
  np : Nat
  ns : Nat
  body : Ss
  /-- a method of the class that only goes on to the def -/
  sup : Option (Nat × Nat) := none
  /-- hands back a new list or dict that nothing else knows -/
  fr : Bool := false
def startE (ns : Nat) (ds : List D) : Ev := ds.map Slot.val ++ List.replicate (ns - ds.length) Slot.no
def runB (tb : Tb) (Φ : Nat → List D → MH → R D) (fd : Fd) (ds : List D) (h : MH) : R D := match execs tb Φ fd.body (startE fd.ns ds) h with
  | .nx _ h => if fd.fr then .no else .ok .non h
  | .rt d h => if fd.fr then .no else .ok d h
  | .rtF d h => if fd.fr then .ok d h else .no
  | .ex c fs _ h => .ex c fs h
  | _ => .no
def callN (tb : Tb) (F : Nat → Option Fd) : Nat → Nat → List D → MH → R D
  | 0, _, _, _ => .no
  | k + 1, f, ds, h => match F f with
    | some fd => if ds.length = fd.np then (match fd.sup with
      | none => runB tb (callN tb F k) fd ds h
      | some (c, g) => (match ds with
        | x :: r => (match view x h with
          | some (.ins c' _) => if c' = c then callN tb F k g (x :: r) h else .no
          | _ => .no)
        | [] => .no)) else .no
    | none => .no
end MP

set_option maxRecDepth 100000
set_option maxHeartbeats 1000000
/-! MP3: a scene of the small language stands for a state of the machine (Rel); operations on what stands for data. -/
namespace MP
open PySem PySem.Spec PyProof.Rows L2

/-- v holds the content d (it may be changed) -/
inductive VRep (C : RC) (ι : List Addr) (M : Addr → Prop) (H : Hp) : V → D → Prop
  | non : VRep C ι M H .non .non
  | bl (b : Bool) : VRep C ι M H (.bl b) (.bl b)
  | int (i : Int) : VRep C ι M H (.int i) (.int i)
  | str (x : Str) : VRep C ι M H (.str x) (.str x)
  | tup {a : Addr} {vs : List V} {ds : List D} : TupAt C M H a vs → Reps C ι M H vs ds → VRep C ι M H (.ref a) (.tup ds)
  | lst {a : Addr} {vs : List V} {ds : List D} : H a = some (.lst vs) → Reps C ι M H vs ds → VRep C ι M H (.ref a) (.lst ds)
  | scr {a : Addr} {vs : List V} {ds : List D} : SqL C.K H a vs → Reps C ι M H vs ds → VRep C ι M H (.ref a) (.scr ds)
  | dctK {a : Addr} {kvs : List (Key × V)} {ds : List (D × D)} : Rd H a (.dK kvs) → RepKs C ι M H kvs ds → VRep C ι M H (.ref a) (.dct ds)
  | dctT {a : Addr} {l : List (NestedKey × Addr × V)} {ds : List (D × D)} : Rd H a (.ext (dtPhi C.w a l)) → RepTs C ι M H l ds → VRep C ι M H (.ref a) (.dct ds)
  | dctG {a : Addr} {xs : List (Str × V)} {ds : List (D × D)} : KDct C a xs → RepGs C ι M H xs ds → VRep C ι M H (.ref a) (.dct ds)
  | ins {a : Addr} {c : Nat} {dx : Addr} {vfs : List (Str × V)} {fs : List (Str × D)} : H a = some (.ins (C.ca c) dx vfs) → RepFs C ι M H vfs fs → VRep C ι M H (.ref a) (.ins c fs)
/-- an object that may change holds d -/
inductive ContAt (C : RC) (ι : List Addr) (M : Addr → Prop) (H : Hp) (a : Addr) : D → Prop
  | lst {vs : List V} {ds : List D} : H a = some (.lst vs) → Reps C ι M H vs ds → ContAt C ι M H a (.lst ds)
  | dctK {kvs : List (Key × V)} {ds : List (D × D)} : H a = some (.dK kvs) → RepKs C ι M H kvs ds → ContAt C ι M H a (.dct ds)
  | dctT {l : List (NestedKey × Addr × V)} {ds : List (D × D)} : H a = some (.ext (dtPhi C.w a l)) → RepTs C ι M H l ds → ContAt C ι M H a (.dct ds)
  | ins {c : Nat} {dx : Addr} {vfs : List (Str × V)} {fs : List (Str × D)} : H a = some (.ins (C.ca c) dx vfs) → RepFs C ι M H vfs fs → ContAt C ι M H a (.ins c fs)

/-- what is fixed through a def's run: the abstract heap at its entry, what may change of its callers', the shared objects at its entry -/
structure SC where
  C : RC
  H0 : Hp
  M0 : Addr → Prop
  i0 : List Addr
def OwnAt (e : Ev) (σ : L2.St) (i : Nat) (a : Addr) : Prop := (∃ d, e[i]? = some (.own d)) ∧ σ[i]? = some (some (.ref a))
def Mu (M0 : Addr → Prop) (ι : List Addr) (e : Ev) (σ : L2.St) : Addr → Prop := fun a => M0 a ∨ a ∈ ι ∨ ∃ i, OwnAt e σ i a

structure Rel (S : SC) (ι : List Addr) (e : Ev) (h : MH) (σ : L2.St) (H : Hp) : Prop where
  len : e.length = σ.length
  val : ∀ (i : Nat) (d : D), e[i]? = some (.val d) → ∃ v, σ[i]? = some (some v) ∧ Rep S.C ι (Mu S.M0 ι e σ) H v d
  own : ∀ (i : Nat) (d : D), e[i]? = some (.own d) → ∃ a, σ[i]? = some (some (.ref a)) ∧ S.H0 a = none ∧ a ∉ ι ∧ ContAt S.C ι (Mu S.M0 ι e σ) H a d
  dist : ∀ (i j : Nat) (a : Addr), OwnAt e σ i a → OwnAt e σ j a → i = j
  hl : ι.length = h.length
  hd : ι.Nodup
  hp : ∀ (n : Nat) (d : D), h[n]? = some d → ∃ a, ι[n]? = some a ∧ ContAt S.C ι (Mu S.M0 ι e σ) H a d
  kept : ∀ b o, S.H0 b = some o → b ∉ S.i0 → H b = some o
  fresh : ∀ b, b ∈ ι → b ∈ S.i0 ∨ S.H0 b = none
  pre : ∀ (n : Nat) (a : Addr), S.i0[n]? = some a → ι[n]? = some a
  mz : ∀ a, S.M0 a → ∃ o, H a = some o

section
variable {C : RC} {ι ι' : List Addr} {M M' : Addr → Prop} {H H' : Hp}
theorem Rep.vw {v : V} {d : D} (r : Rep C ι M H v d) (n : ∀ k, d ≠ .ref k) : VRep C ι M H v d := by
  cases r with
  | non => exact .non
  | bl b => exact .bl b
  | int i => exact .int i
  | str x => exact .str x
  | tup h r => exact .tup h r
  | lst m h r => exact .lst h r
  | scr h r => exact .scr h.sq r
  | dctK m h r => exact .dctK (.inr ⟨_, h⟩) r
  | dctT m h r => exact .dctT (.inr ⟨_, h⟩) r
  | dctG h r => exact .dctG h r
  | ins m h r => exact .ins h r
  | ref h => exact absurd rfl (n _)
theorem ContAt.vw {a : Addr} {d : D} (r : ContAt C ι M H a d) : VRep C ι M H (.ref a) d := by
  cases r with
  | lst h r => exact .lst h r
  | dctK h r => exact .dctK (.inl h) r
  | dctT h r => exact .dctT (.inl h) r
  | ins h r => exact .ins h r
/-- the content, where it is not changed -/
theorem ContAt.go {a : Addr} {d : D} (r : ContAt C ι M H a d) (g : Go ι M H ι' M' H') (e : ∀ o, H a = some o → H' a = some o) : ContAt C ι' M' H' a d := by
  cases r with
  | lst h r => exact .lst (e _ h) (r.go g)
  | dctK h r => exact .dctK (e _ h) (r.go g)
  | dctT h r => exact .dctT (e _ h) (r.go g)
  | ins h r => exact .ins (e _ h) (r.go g)
theorem ContAt.some {a : Addr} {d : D} (r : ContAt C ι M H a d) : ∃ o, H a = some o := by
  cases r with
  | lst h r => exact ⟨_, h⟩
  | dctK h r => exact ⟨_, h⟩
  | dctT h r => exact ⟨_, h⟩
  | ins h r => exact ⟨_, h⟩
theorem Go.same {H H' : Hp} (s : Same H H') : Go ι M H ι M H' := ⟨fun _ _ h => h, fun a o h _ => s a o h, fun _ _ _ h => h, fun _ h => .inl h, fun a o h => ⟨o, s a o h⟩⟩
theorem Go.swap {M'' : Addr → Prop} (g : Go ι M H ι' M' H') (h : ∀ a, M'' a → M' a) : Go ι M H ι' M'' H' := ⟨g.pre, g.kept, fun a o e z => g.new a o e (h a z), g.nw, g.live⟩
end

section
variable {S : SC} {ι : List Addr} {e : Ev} {h : MH} {σ : L2.St} {H H' : Hp}
/-- new objects -/
theorem Rel.grow (R : Rel S ι e h σ H) (s : Same H H') : Rel S ι e h σ H' where
  len := R.len
  val := fun i d q => let ⟨v, h1, h2⟩ := R.val i d q; ⟨v, h1, h2.go (.same s)⟩
  own := fun i d q => let ⟨a, h1, h2, h3, h4⟩ := R.own i d q; ⟨a, h1, h2, h3, h4.go (.same s) fun o => s a o⟩
  dist := R.dist
  hl := R.hl
  hd := R.hd
  hp := fun n d q => let ⟨a, h1, h2⟩ := R.hp n d q; ⟨a, h1, h2.go (.same s) fun o => s a o⟩
  kept := fun b o h1 h2 => s b o (R.kept b o h1 h2)
  fresh := R.fresh
  pre := R.pre
  mz := fun a m => let ⟨o, q⟩ := R.mz a m; ⟨o, s a o q⟩
/-- what may change is there -/
theorem Rel.there (R : Rel S ι e h σ H) {a : Addr} (m : Mu S.M0 ι e σ a) : ∃ o, H a = some o := by
  rcases m with m | m | ⟨i, ⟨d, h1⟩, h2⟩
  · exact R.mz a m
  · obtain ⟨n, hn, rfl⟩ := List.mem_iff_getElem.mp m
    have hn' : n < h.length := by rw [← R.hl]; exact hn
    obtain ⟨b, h1, h2⟩ := R.hp n h[n] (List.getElem?_eq_getElem hn')
    rw [List.getElem?_eq_getElem hn] at h1
    cases h1
    exact h2.some
  · obtain ⟨b, h3, _, _, h4⟩ := R.own i d h1
    rw [h2] at h3
    cases h3
    exact h4.some
theorem Rel.not (R : Rel S ι e h σ H) {a : Addr} (n : H a = none) : ¬ Mu S.M0 ι e σ a := fun m => by
  obtain ⟨o, q⟩ := R.there m
  rw [n] at q
  cases q
theorem Rel.view (R : Rel S ι e h σ H) {v : V} {d c : D} (r : Rep S.C ι (Mu S.M0 ι e σ) H v d) (q : view d h = some c) : VRep S.C ι (Mu S.M0 ι e σ) H v c := by
  cases d with
  | ref n =>
    cases r with
    | ref hn =>
      obtain ⟨a, h1, h2⟩ := R.hp n c q
      rw [hn] at h1
      cases h1
      exact h2.vw
  | _ =>
    cases q
    exact r.vw fun k z => by cases z
/-- what an operand is -/
def ORep (S : SC) (ι : List Addr) (e : Ev) (σ : L2.St) (H : Hp) (v : V) : Od → Prop
  | .d d => Rep S.C ι (Mu S.M0 ι e σ) H v d
  | .own i => σ[i]? = some (some v)
theorem ORep.go {ι' : List Addr} {v : V} {x : Od} (r : ORep S ι e σ H v x) (g : Go ι (Mu S.M0 ι e σ) H ι' (Mu S.M0 ι' e σ) H') : ORep S ι' e σ H' v x := by
  cases x with
  | d d => exact Rep.go g r
  | own i => exact r
theorem Rel.vo (R : Rel S ι e h σ H) {v : V} {x : Od} {c : D} (r : ORep S ι e σ H v x) (q : vo e h x = some c) : VRep S.C ι (Mu S.M0 ι e σ) H v c := by
  cases x with
  | d d => exact R.view r q
  | own i =>
    have q' : (match e[i]? with
      | some (.own d) => some d
      | _ => none) = some c := q
    cases z : e[i]? with
    | none => rw [z] at q'; cases q'
    | some s =>
      rw [z] at q'
      cases s with
      | own d =>
        cases q'
        obtain ⟨a, h1, _, _, h2⟩ := R.own i c z
        have r' : σ[i]? = some (some v) := r
        rw [h1] at r'
        cases r'
        exact h2.vw
      | no => cases q'
      | val d => cases q'

/-- a result r of ev leads to what is wanted -/
def Out (S : SC) (e : Ev) (σ : L2.St) (r : R D) (ι : List Addr) (H : Hp) (Q : VK) : Prop :=
  ∃ d h', r = .ok d h' ∧ ∀ ι' H' v, Go ι (Mu S.M0 ι e σ) H ι' (Mu S.M0 ι' e σ) H' → Rel S ι' e h' σ H' → Rep S.C ι' (Mu S.M0 ι' e σ) H' v d → Q v H'
def OutO (S : SC) (e : Ev) (σ : L2.St) (r : R Od) (ι : List Addr) (H : Hp) (Q : V → Hp → Prop) : Prop :=
  ∃ x h', r = .ok x h' ∧ ∀ ι' H' v, Go ι (Mu S.M0 ι e σ) H ι' (Mu S.M0 ι' e σ) H' → Rel S ι' e h' σ H' → ORep S ι' e σ H' v x → Q v H'
def OutL (S : SC) (e : Ev) (σ : L2.St) (r : R (List D)) (ι : List Addr) (H : Hp) (Q : List V → Hp → Prop) : Prop :=
  ∃ ds h', r = .ok ds h' ∧ ∀ ι' H' vs, Go ι (Mu S.M0 ι e σ) H ι' (Mu S.M0 ι' e σ) H' → Rel S ι' e h' σ H' → Reps S.C ι' (Mu S.M0 ι' e σ) H' vs ds → Q vs H'
inductive OReps (S : SC) (ι : List Addr) (e : Ev) (σ : L2.St) (H : Hp) : List V → List Od → Prop
  | nil : OReps S ι e σ H [] []
  | cons {v : V} {vs : List V} {x : Od} {xs : List Od} : ORep S ι e σ H v x → OReps S ι e σ H vs xs → OReps S ι e σ H (v :: vs) (x :: xs)
def OutOs (S : SC) (e : Ev) (σ : L2.St) (r : R (List Od)) (ι : List Addr) (H : Hp) (Q : List V → Hp → Prop) : Prop :=
  ∃ ds h', r = .ok ds h' ∧ ∀ ι' H' vs, Go ι (Mu S.M0 ι e σ) H ι' (Mu S.M0 ι' e σ) H' → Rel S ι' e h' σ H' → OReps S ι' e σ H' vs ds → Q vs H'
/-- a result that needs nothing but its data: a Bool, an optional int -/
def OutP {α : Type} (S : SC) (e : Ev) (σ : L2.St) (r : R α) (ι : List Addr) (H : Hp) (Q : α → Hp → Prop) : Prop :=
  ∃ b h', r = .ok b h' ∧ ∀ ι' H', Go ι (Mu S.M0 ι e σ) H ι' (Mu S.M0 ι' e σ) H' → Rel S ι' e h' σ H' → Q b H'
theorem bind_ok {α β : Type} {x : R α} {f : α → MH → R β} {b : β} {h' : MH} (q : x.bind f = .ok b h') : ∃ a h1, x = .ok a h1 ∧ f a h1 = .ok b h' := by
  cases x with
  | ok a h1 => exact ⟨a, h1, rfl, q⟩
  | ex c fs h1 => cases q
  | no => cases q
theorem of_ok {α : Type} {o : Option α} {h h' : MH} {a : α} (q : R.of o h = .ok a h') : o = some a ∧ h' = h := by
  cases o with
  | none => cases q
  | some b => cases q; exact ⟨rfl, rfl⟩
end
variable (tb : Tb) (Φ : Nat → List D → MH → R D) (S : SC)
def tE (m : M) : TE := fun σ H Q => ∃ ι e h, Rel S ι e h σ H ∧ Out S e σ (ev tb Φ m e h) ι H Q
def tO (m : M) : TE := fun σ H Q => ∃ ι e h, Rel S ι e h σ H ∧ OutO S e σ (opd m (ev tb Φ m e h) e h) ι H Q
def tEs (l : Ms) : TA := fun σ H Q => ∃ ι e h, Rel S ι e h σ H ∧ OutL S e σ (evs tb Φ l e h) ι H Q
def tOs (l : Ms) : TA := fun σ H Q => ∃ ι e h, Rel S ι e h σ H ∧ OutOs S e σ (evOs tb Φ l e h) ι H Q
def tT (c : T) : TT := fun σ H Q => ∃ ι e h, Rel S ι e h σ H ∧ OutP S e σ (evT tb Φ c e h) ι H Q
end MP

set_option maxRecDepth 100000
set_option maxHeartbeats 1000000
/-! MP3b: new tuples, their object known. -/
namespace MP
open PySem PySem.Spec PyProof.Rows L2
section
variable {X : Cx} {pins : List (Addr × Obj)} {σ : L2.St} {H : Hp} {s : Shared}
/-- a new tuple's object -/
def TupO (o : Obj) : Prop := o.dict = none
theorem laidT {h' : Heap} {a : Addr} {o : Obj} {xs : List V} {us : List Value} {t' : Nat} (I : Inv X pins σ H s) (k : ∀ b u, s.heap.get? b = some u → h'.get? b = some u) (hp : s.heap.objs.size ≤ a) (r : Vals xs us) (z : xs.length ≤ sizeLine)
    (e : h'.get? a = some o) (hc : o.cls = .type "tuple") (hd : ∃ n, o.data = .seq us.toArray n) : Inv X pins σ (upd H a (.frz o (.tup xs))) { s with heap := h', toks := t' } :=
  I.laid k hp (show ObjOk X.prog X.w _ h' a (.frz o (.tup xs)) from ⟨e, z, us, r, ⟨o, e, hc, hd⟩⟩)
abbrev NewT (H : Hp) (xs : List V) (Q : VK) : Prop := ∀ p o, H p = none → TupO o → Q (.ref p) (upd H p (.frz o (.tup xs)))
theorem newT_of {xs : List V} {us : List Value} {Q : VK} (I : Inv X pins σ H s) (r : Vals xs us) (z : xs.length ≤ sizeLine) (q : NewT H xs Q) : EP X pins σ Q (.ref s.heap.objs.size) { s with heap := s.heap.push { cls := .type "tuple", data := .seq us.toArray } } :=
  ⟨.ref s.heap.objs.size, _, laidT (t' := s.toks) I (fun b u e => Heap.get?_push_of_some _ e) (Nat.le_refl _) r z (Heap.get?_push_size _ rfl) rfl ⟨_, rfl⟩, rfl, q _ _ (I.hok.fresh (Nat.le_refl _)) rfl⟩
theorem pe_tupN {es : List Expr} {t : TA} {pos : Pos} {x1 : Nat} (h : PA X es t) : PE X (.Tuple es x1 pos) (fun σ H Q => t σ H fun xs H1 => xs.length ≤ sizeLine ∧ NewT H1 xs Q) :=
  ⟨fun pins s σ H Q I hq => wpAny_Tuple_spliced (thn (h.run pos pins s σ H _ I hq) fun us s1 ⟨xs, H1, I1, r, z, q⟩ => ⟨by rw [← r.length]; exact z, newT_of I1 r z q⟩)⟩
def rCatN (K : PySem.W.Frag) : R2 := fun x y H Q => ∃ a b xs ys, x = .ref a ∧ y = .ref b ∧ SqT K H a xs ∧ SqT K H b ys ∧ xs.length + ys.length ≤ sizeLine ∧ xs ≠ [] ∧ ys ≠ [] ∧ NewT H (xs ++ ys) Q
theorem op_catN : OpR X (binaryOp .Add) (rCatN X.K) := by
  intro pins s σ H x y v u Q I rx ry ⟨a, b, xs, ys, ex, ey, ha, hb, hz, n1, n2, q⟩
  subst ex ey
  cases rx
  cases ry
  obtain ⟨its, r1, p1, _⟩ := I.tuple ha
  obtain ⟨its2, r2, p2, _⟩ := I.tuple hb
  refine HT.cat_tup p1 p2 (fun w => n1 (r1.nil_iff.mp w)) (fun w => absurd (r2.nil_iff.mp w) n2) (fun _ => ?_) (by rw [← r1.length, ← r2.length]; exact hz)
  exact newT_of I (r1.append r2) (by rw [List.length_append]; exact hz) q
def rSlN (K : PySem.W.Frag) : V → Option Int → Option Int → Hp → VK → Prop := fun x lo hi H Q => ∃ a xs, x = .ref a ∧ SqT K H a xs ∧ ((HT.sIx xs.length 0 lo = 0 ∧ HT.sIx xs.length xs.length hi = xs.length) → Q (.ref a) H) ∧
  (¬ (HT.sIx xs.length 0 lo = 0 ∧ HT.sIx xs.length xs.length hi = xs.length) → NewT H (cutV xs lo hi) Q)
theorem sl_tupN : SlR X (rSlN X.K) := by
  intro pins s σ H x v vl vu lo hi sl Q I rx hs pl pu ⟨a, xs, ex, hx, q1, q2⟩
  by_cases hw : HT.sIx xs.length 0 lo = 0 ∧ HT.sIx xs.length xs.length hi = xs.length
  · exact sl_tupA pins s σ H x v vl vu lo hi sl Q I rx hs pl pu ⟨a, xs, ex, hx, fun w => q1 w, fun w => absurd hw w⟩
  · subst ex
    cases rx
    obtain ⟨its, r, ht, hz⟩ := I.tuple hx
    have hlen : its.toArray.size = xs.length := by rw [List.size_toArray, ← r.length]
    refine ⟨"tuple", _, PyProof.Rows.slot_tuple_getitem.lookup, ht.typeIs, HT.getItem_tuple_cut ht hs pl pu (by rw [hlen]; exact hw) ?_ (by rw [hlen]; exact hz)⟩
    rw [hlen]
    have rr : Vals (cutV xs lo hi) _ := (r.drop (HT.sIx xs.length 0 lo)).take (HT.sIx xs.length xs.length hi - HT.sIx xs.length 0 lo)
    exact ⟨.ref s.heap.objs.size, _, laidT (t' := s.toks) I (fun b ob q => Heap.get?_push_of_some _ q) (Nat.le_refl _) rr (Nat.le_trans (cutV_length xs lo hi) hz) (Heap.get?_push_size _ rfl) rfl ⟨_, by simp; rfl⟩, rfl, q2 hw _ _ (I.hok.fresh (Nat.le_refl _)) rfl⟩
theorem call_tupleN : CallR X (.type "tuple") (fun xs H Q => ∃ p ys, xs = [.ref p] ∧ SqL X.K H p ys ∧ NewT H ys Q) := by
  intro pins s σ H xs us Q I r ⟨p, ys, ex, hq, q⟩
  subst ex
  obtain ⟨u, rfl, rx⟩ := vals1 r
  cases rx
  obtain ⟨its, r', pl, hz⟩ := I.list hq
  have hlen := r'.length
  refine call_tuple_list pl.isList (fun h' kp => ?_) (by simp only [List.size_toArray] <;> omega)
  have I1 : Inv X pins σ H { s with heap := h' } := I.kept (t' := s.toks) kp
  exact newT_of I1 r' hz q
end
end MP

set_option maxRecDepth 100000
set_option maxHeartbeats 1000000
/-! MP4: the operators by what their operands stand for. -/
namespace MP
open PySem PySem.Spec PyProof.Rows L2

abbrev cx (X : Cx) (ca : Nat → Addr) : RC := ⟨X.prog, X.w, X.K, ca⟩
def Known (M : Addr → Prop) (H : Hp) : Prop := ∀ a, M a → ∃ o, H a = some o
theorem Known.new {M : Addr → Prop} {H : Hp} (k : Known M H) {p : Addr} (n : H p = none) : ¬ M p := fun m => by
  obtain ⟨o, q⟩ := k p m
  rw [n] at q
  cases q
theorem same_laid {H : Hp} {p : Addr} {o : HO} (n : H p = none) : Same H (upd H p o) := fun b u q => by rw [upd_ne (ne_of_none q n)]; exact q
theorem lim_le {n : Nat} (h : n ≤ lim) : n ≤ sizeLine := Nat.le_trans h (by decide)
theorem opr_imp {X : Cx} {f : Value → Value → Sem Value} {r r' : R2} (h : OpR X f r) (i : ∀ x y H Q, r' x y H Q → r x y H Q) : OpR X f r' :=
  fun pins s σ H x y v u Q I rx ry q => h pins s σ H x y v u Q I rx ry (i x y H Q q)

section
variable {C : RC} {ι : List Addr} {M : Addr → Prop} {H : Hp}
theorem Rep.tupNew {p : Addr} {o : Obj} {vs : List V} {ds : List D} (k : Known M H) (n : H p = none) (ho : TupO o) (r : Reps C ι M H vs ds) : Rep C ι M (upd H p (.frz o (.tup vs))) (.ref p) (.tup ds) :=
  .tup (.inl ⟨k.new n, o, upd_same, ho⟩) (r.go (.laid n))
theorem Rep.lstNew {p : Addr} {vs : List V} {ds : List D} (k : Known M H) (n : H p = none) (r : Reps C ι M H vs ds) : Rep C ι M (upd H p (.lst vs)) (.ref p) (.lst ds) :=
  .lst (k.new n) upd_same (r.go (.same (same_laid n)))
theorem Same.rfl' {H : Hp} : Same H H := fun _ _ h => h
end

/-- a pure operation on two contents -/
def rBin (C : RC) (f : D → D → Option D) : R2 := fun x y H Q => ∃ ι M dx dy d, Known M H ∧ VRep C ι M H x dx ∧ VRep C ι M H y dy ∧ f dx dy = some d ∧
  ∀ H' v, Same H H' → Rep C ι M H' v d → Q v H'
def bopOf : Bop → Operator
  | .add => .Add | .sub => .Sub | .mul => .Mult | .fdiv => .FloorDiv | .mod => .Mod | .pow => .Pow | .band => .BitAnd
section
variable {X : Cx} {ca : Nat → Addr}
theorem bin_sub : OpR X (binaryOp .Sub) (rBin (cx X ca) (binD .sub)) := opr_imp op_sub fun x y H Q ⟨ι, M, dx, dy, d, k, h1, h2, e, q⟩ => by
  cases h1 <;> cases h2 <;> first
    | (simp [binD] at e; done)
    | (cases e; exact ⟨_, _, rfl, rfl, q _ _ Same.rfl' (.int _)⟩)
theorem bin_mul : OpR X (binaryOp .Mult) (rBin (cx X ca) (binD .mul)) := opr_imp op_mul fun x y H Q ⟨ι, M, dx, dy, d, k, h1, h2, e, q⟩ => by
  cases h1 <;> cases h2 <;> first
    | (simp [binD] at e; done)
    | (rename_i i j
       simp only [binD] at e
       split at e
       · rename_i hc
         cases e
         exact ⟨_, _, rfl, rfl, hc, q _ _ Same.rfl' (.int _)⟩
       · cases e)
theorem bin_fdiv : OpR X (binaryOp .FloorDiv) (rBin (cx X ca) (binD .fdiv)) := opr_imp op_fdiv fun x y H Q ⟨ι, M, dx, dy, d, k, h1, h2, e, q⟩ => by
  cases h1 <;> cases h2 <;> first
    | (simp [binD] at e; done)
    | (rename_i i j
       simp only [binD] at e
       split at e
       · rename_i hc
         cases e
         exact ⟨_, _, rfl, rfl, hc, q _ _ Same.rfl' (.int _)⟩
       · cases e)
theorem bin_mod : OpR X (binaryOp .Mod) (rBin (cx X ca) (binD .mod)) := opr_imp op_mod fun x y H Q ⟨ι, M, dx, dy, d, k, h1, h2, e, q⟩ => by
  cases h1 <;> cases h2 <;> first
    | (simp [binD] at e; done)
    | (rename_i i j
       simp only [binD] at e
       split at e
       · rename_i hc
         cases e
         exact ⟨_, _, rfl, rfl, hc, q _ _ Same.rfl' (.int _)⟩
       · cases e)
theorem bin_pow : OpR X (binaryOp .Pow) (rBin (cx X ca) (binD .pow)) := opr_imp op_pow fun x y H Q ⟨ι, M, dx, dy, d, k, h1, h2, e, q⟩ => by
  cases h1 <;> cases h2 <;> first
    | (simp [binD] at e; done)
    | (rename_i i j
       simp only [binD] at e
       split at e
       · rename_i hc
         cases e
         exact ⟨_, _, rfl, rfl, hc, q _ _ Same.rfl' (.int _)⟩
       · cases e)
theorem bin_band : OpR X (binaryOp .BitAnd) (rBin (cx X ca) (binD .band)) := opr_imp op_and fun x y H Q ⟨ι, M, dx, dy, d, k, h1, h2, e, q⟩ => by
  cases h1 <;> cases h2 <;> first
    | (simp [binD] at e; done)
    | (cases e; exact ⟨_, _, rfl, rfl, q _ _ Same.rfl' (.int _)⟩)
theorem bin_add : OpR X (binaryOp .Add) (rBin (cx X ca) (binD .add)) :=
  opr_imp (OpR.or op_add (OpR.or op_add_str (OpR.or (OpR.or op_catA op_catN) op_cat))) fun x y H Q ⟨ι, M, dx, dy, d, k, h1, h2, e, q⟩ => by
    cases h1 with
    | int i => cases h2 with
      | int j => cases e; exact .inl ⟨_, _, rfl, rfl, q _ _ Same.rfl' (.int _)⟩
      | _ => simp [binD] at e
    | str a => cases h2 with
      | str b =>
        simp only [binD] at e
        split at e
        · rename_i hc
          cases e
          exact .inr (.inl ⟨_, _, rfl, rfl, lim_le hc, q _ _ Same.rfl' (.str _)⟩)
        · cases e
      | _ => simp [binD] at e
    | @tup a vs ds ha ra => cases h2 with
      | @tup b us es hb rb =>
        simp only [binD] at e
        split at e
        · rename_i hc
          cases e
          have hz : vs.length + us.length ≤ sizeLine := by rw [ra.length, rb.length]; exact lim_le hc
          by_cases n1 : vs = []
          · refine .inr (.inr (.inl (.inl ⟨a, b, vs, us, rfl, rfl, ha.sq, hb.sq, hz, fun e1 => ?_, fun n1' e1 => absurd n1 n1', fun n1' n2 p hp => absurd n1 n1'⟩)))
            subst e1
            cases ra
            exact q _ _ Same.rfl' (.tup hb rb)
          by_cases n2 : us = []
          · refine .inr (.inr (.inl (.inl ⟨a, b, vs, us, rfl, rfl, ha.sq, hb.sq, hz, fun e1 => absurd e1 n1, fun _ e1 => ?_, fun _ n2' p hp => absurd n2 n2'⟩)))
            subst e1
            cases rb
            rw [List.append_nil] at q
            exact q _ _ Same.rfl' (.tup ha ra)
          exact .inr (.inr (.inl (.inr ⟨a, b, vs, us, rfl, rfl, ha.sq, hb.sq, hz, n1, n2, fun p o hp ho => q _ _ (same_laid hp) (.tupNew k hp ho (ra.append rb))⟩)))
        · cases e
      | _ => simp [binD] at e
    | @lst a vs ds ha ra => cases h2 with
      | @lst b us es hb rb =>
        simp only [binD] at e
        split at e
        · rename_i hc
          cases e
          have hz : vs.length + us.length ≤ sizeLine := by rw [ra.length, rb.length]; exact lim_le hc
          exact .inr (.inr (.inr ⟨a, b, vs, us, rfl, rfl, ha, hb, hz, fun p hp => q _ _ (same_laid hp) (.lstNew k hp (ra.append rb))⟩))
        · cases e
      | _ => simp [binD] at e
    | _ => cases h2 <;> simp [binD] at e
end
end MP

set_option maxRecDepth 100000
set_option maxHeartbeats 1000000
/-! MP5: comparisons. -/
namespace MP
open PySem PySem.Spec PyProof.Rows L2

mutual
def D.pd : D → PyData
  | .non => .none
  | .bl b => .bool b
  | .int i => .int i
  | .str x => .str x
  | .tup l => .tuple (pdL l)
  | .lst l => .list (pdL l)
  | _ => .none
def pdL : List D → List PyData
  | [] => []
  | d :: r => d.pd :: pdL r
end
mutual
theorem fitL_get : ∀ {l : List D} {k j : Nat} (h : fitL l k = true) (hj : j < l.length), fit l[j] k = true
  | d :: r, k, 0, h, hj => (Bool.and_eq_true_iff.mp (show (fit d k && fitL r k) = true from h)).1
  | d :: r, k, j + 1, h, hj => fitL_get (l := r) (Bool.and_eq_true_iff.mp (show (fit d k && fitL r k) = true from h)).2 (by simpa using hj)
theorem fit_lay : ∀ (d : D) (k : Nat), fit d k = true → d.pd.canLay0 = true ∧ d.pd.depth ≤ k
  | .non, _, _ => ⟨rfl, Nat.zero_le _⟩
  | .bl _, _, _ => ⟨rfl, Nat.zero_le _⟩
  | .int _, _, _ => ⟨rfl, Nat.zero_le _⟩
  | .str x, _, h => ⟨h, Nat.zero_le _⟩
  | .tup l, 0, h => by simp [fit] at h
  | .tup l, k + 1, h => by
    have h' : fitL l k = true := h
    obtain ⟨a, b⟩ := fitL_lay l k h'
    exact ⟨a, Nat.succ_le_succ b⟩
  | .lst l, 0, h => by simp [fit] at h
  | .lst l, k + 1, h => by
    have h' : fitL l k = true := h
    obtain ⟨a, b⟩ := fitL_lay l k h'
    exact ⟨a, Nat.succ_le_succ b⟩
  | .dct _, _, h => by simp [fit] at h
  | .ins _ _, _, h => by simp [fit] at h
  | .ref _, _, h => by simp [fit] at h
  | .scr _, _, h => by simp [fit] at h
theorem fitL_lay : ∀ (l : List D) (k : Nat), fitL l k = true → PyData.canLayAll0 (pdL l) = true ∧ PyData.depthAll (pdL l) ≤ k
  | [], _, _ => ⟨rfl, Nat.zero_le _⟩
  | d :: r, k, h => by
    have h' : (fit d k && fitL r k) = true := h
    obtain ⟨h1, h2⟩ := Bool.and_eq_true_iff.mp h'
    obtain ⟨a1, b1⟩ := fit_lay d k h1
    obtain ⟨a2, b2⟩ := fitL_lay r k h2
    refine ⟨?_, ?_⟩
    · show (d.pd.canLay0 && PyData.canLayAll0 (pdL r)) = true
      rw [a1, a2]; rfl
    · exact Nat.max_le.mpr ⟨b1, b2⟩
end
theorem fit_shaped {d : D} {k : Nat} (h : fit d k = true) (hk : k ≤ 64) : SeqAt.shaped d.pd = true := by
  obtain ⟨a, b⟩ := fit_lay d k h
  exact Bool.and_eq_true_iff.mpr ⟨a, decide_eq_true (Nat.le_trans b hk)⟩
mutual
theorem eqv_eqD : ∀ (x y : D) (k j : Nat), fit x k = true → fit y j = true → PyData.eqv x.pd y.pd = eqD x y
  | .non, y, _, _, _, h => by cases y <;> first | rfl | (simp [fit] at h; done)
  | .bl a, y, _, _, _, h => by
    cases y <;> first
      | rfl
      | (simp [fit] at h; done)
      | (simp only [D.pd, PyData.eqv, eqD]; cases a <;> simp [Bool.beq_eq_decide_eq])
  | .int i, y, _, _, _, h => by
    cases y <;> first
      | rfl
      | (simp [fit] at h; done)
      | (simp only [D.pd, PyData.eqv, eqD]; simp [Bool.beq_eq_decide_eq])
  | .str x, y, _, _, _, h => by
    cases y <;> first
      | rfl
      | (simp [fit] at h; done)
      | (simp only [D.pd, PyData.eqv, eqD]; simp [Bool.beq_eq_decide_eq])
  | .tup l, y, k, j, hx, h => by
    cases k with
    | zero => simp [fit] at hx
    | succ k =>
      have hx' : fitL l k = true := hx
      cases y <;> first
        | rfl
        | (simp [fit] at h; done)
        | skip
      rename_i m
      cases j with
      | zero => simp [fit] at h
      | succ j =>
        have h' : fitL m j = true := h
        exact eqv_eqDL l m k j hx' h'
  | .lst l, y, k, j, hx, h => by
    cases k with
    | zero => simp [fit] at hx
    | succ k =>
      have hx' : fitL l k = true := hx
      cases y <;> first
        | rfl
        | (simp [fit] at h; done)
        | skip
      rename_i m
      cases j with
      | zero => simp [fit] at h
      | succ j =>
        have h' : fitL m j = true := h
        exact eqv_eqDL l m k j hx' h'
  | .dct _, _, _, _, h, _ => by simp [fit] at h
  | .ins _ _, _, _, _, h, _ => by simp [fit] at h
  | .ref _, _, _, _, h, _ => by simp [fit] at h
  | .scr _, _, _, _, h, _ => by simp [fit] at h
theorem eqv_eqDL : ∀ (l m : List D) (k j : Nat), fitL l k = true → fitL m j = true → PyData.eqvAll (pdL l) (pdL m) = eqDL l m
  | [], m, _, _, _, _ => by cases m <;> rfl
  | x :: xs, m, k, j, hx, h => by
    cases m with
    | nil => rfl
    | cons y ys =>
      have hx' : (fit x k && fitL xs k) = true := hx
      have h' : (fit y j && fitL ys j) = true := h
      obtain ⟨h1, h2⟩ := Bool.and_eq_true_iff.mp hx'
      obtain ⟨h3, h4⟩ := Bool.and_eq_true_iff.mp h'
      show (PyData.eqv x.pd y.pd && PyData.eqvAll (pdL xs) (pdL ys)) = (eqD x y && eqDL xs ys)
      rw [eqv_eqD x y k j h1 h3, eqv_eqDL xs ys k j h2 h4]
end
theorem pdL_map : ∀ l : List D, pdL l = l.map D.pd
  | [] => rfl
  | d :: r => congrArg (d.pd :: ·) (pdL_map r)
section
variable {C : RC} {ι : List Addr} {M : Addr → Prop} {H : Hp}
mutual
theorem Rep.dp : ∀ {d : D} {v : V} {k : Nat}, Rep C ι M H v d → fit d k = true → Dp C.K H v d.pd
  | _, _, _, .non, _ => .non
  | _, _, _, .bl b, _ => .bl b
  | _, _, _, .int i, _ => .int i
  | _, _, _, .str x, _ => .str x
  | .tup ds, _, 0, .tup h r, f => by simp [fit] at f
  | .tup ds, _, k + 1, .tup h r, f => .tup h.sq (Reps.dp r (show fitL ds k = true from f))
  | .lst ds, _, 0, .lst m h r, f => by simp [fit] at f
  | .lst ds, _, k + 1, .lst m h r, f => .lst (SqL.of h) (Reps.dp r (show fitL ds k = true from f))
  | .scr ds, _, k, .scr h r, f => by simp [fit] at f
  | _, _, _, .dctK m h r, f => by simp [fit] at f
  | _, _, _, .dctT m h r, f => by simp [fit] at f
  | _, _, _, .dctG h r, f => by simp [fit] at f
  | _, _, _, .ins m h r, f => by simp [fit] at f
  | _, _, _, .ref h, f => by simp [fit] at f
theorem Reps.dp : ∀ {ds : List D} {vs : List V} {k : Nat}, Reps C ι M H vs ds → fitL ds k = true → DpAll C.K H vs (pdL ds)
  | _, _, _, .nil, _ => .nil
  | d :: ds, _, k, .cons h r, f => by
    have f' : (fit d k && fitL ds k) = true := f
    obtain ⟨h1, h2⟩ := Bool.and_eq_true_iff.mp f'
    exact .cons (Rep.dp h h1) (Reps.dp r h2)
end
theorem VRep.dp {d : D} {v : V} {k : Nat} (r : VRep C ι M H v d) (f : fit d k = true) : Dp C.K H v d.pd := by
  cases r with
  | non => exact .non
  | bl b => exact .bl b
  | int i => exact .int i
  | str x => exact .str x
  | tup h r => cases k with
    | zero => simp [fit] at f
    | succ k => exact .tup h.sq (r.dp (show fitL _ k = true from f))
  | lst h r => cases k with
    | zero => simp [fit] at f
    | succ k => exact .lst (SqL.of h) (r.dp (show fitL _ k = true from f))
  | scr h r => simp [fit] at f
  | dctK h r => simp [fit] at f
  | dctT h r => simp [fit] at f
  | dctG h r => simp [fit] at f
  | ins h r => simp [fit] at f
end

/-- a pure comparison of two contents -/
def rCmp (C : RC) (f : D → D → Option Bool) : R2 := fun x y H Q => ∃ ι M dx dy b, Known M H ∧ VRep C ι M H x dx ∧ VRep C ι M H y dy ∧ f dx dy = some b ∧ Q (.bl b) H
section
variable {X : Cx} {ca : Nat → Addr}
theorem eq_core {x y : V} {H : Hp} {ι : List Addr} {M : Addr → Prop} {dx dy : D} {b : Bool} (h1 : VRep (cx X ca) ι M H x dx) (h2 : VRep (cx X ca) ι M H y dy) (e : eqO dx dy = some b) :
    (scal x y = true ∧ b = decide (x = y)) ∨ (∃ d e, Dp X.K H x d ∧ Dp X.K H y e ∧ SeqAt.shaped d = true ∧ SeqAt.shaped e = true ∧ b = PyData.eqv d e) := by
  have gen : (if fit dx 60 && fit dy 60 then some (eqD dx dy) else none) = some b → (∃ d e, Dp X.K H x d ∧ Dp X.K H y e ∧ SeqAt.shaped d = true ∧ SeqAt.shaped e = true ∧ b = PyData.eqv d e) := fun e => by
    split at e
    · rename_i hc
      obtain ⟨f1, f2⟩ := Bool.and_eq_true_iff.mp hc
      cases e
      exact ⟨_, _, h1.dp f1, h2.dp f2, fit_shaped f1 (by decide), fit_shaped f2 (by decide), (eqv_eqD dx dy 60 60 f1 f2).symm⟩
    · cases e
  cases h1 with
  | str a => cases h2 with
    | str c =>
      cases e
      exact .inl ⟨rfl, by simp⟩
    | _ => exact .inr (gen e)
  | _ => exact .inr (gen e)
theorem cmp_eq (hu : X.A.units + 64 < cLine) : OpR X (compareOp .Eq) (rCmp (cx X ca) (cmpD .eq)) := opr_imp (OpR.or op_eq (op_eqD hu)) fun x y H Q ⟨ι, M, dx, dy, b, k, h1, h2, e, q⟩ => by
  rcases eq_core h1 h2 e with ⟨s, eb⟩ | ⟨d, e', a1, a2, a3, a4, eb⟩
  · exact .inl ⟨s, by rw [← eb]; exact q⟩
  · exact .inr ⟨d, e', a1, a2, a3, a4, by rw [← eb]; exact q⟩
theorem cmp_ne (hu : X.A.units + 64 < cLine) : OpR X (compareOp .NotEq) (rCmp (cx X ca) (cmpD .ne)) := opr_imp (OpR.or op_ne (op_neD hu)) fun x y H Q ⟨ι, M, dx, dy, b, k, h1, h2, e, q⟩ => by
  have e' : (eqO dx dy).map (!·) = some b := e
  obtain ⟨c, ec, eb⟩ := Option.map_eq_some_iff.mp e'
  subst eb
  rcases eq_core h1 h2 ec with ⟨s, eb⟩ | ⟨d, e', a1, a2, a3, a4, eb⟩
  · exact .inl ⟨s, by rw [← eb]; exact q⟩
  · exact .inr ⟨d, e', a1, a2, a3, a4, by rw [← eb]; exact q⟩
theorem cmp_lt : OpR X (compareOp .Lt) (rCmp (cx X ca) (cmpD .lt)) := opr_imp op_lt fun x y H Q ⟨ι, M, dx, dy, b, k, h1, h2, e, q⟩ => by
  cases h1 <;> cases h2 <;> first | (simp [cmpD] at e; done) | (cases e; exact ⟨_, _, rfl, rfl, q⟩)
theorem cmp_le : OpR X (compareOp .LtE) (rCmp (cx X ca) (cmpD .le)) := opr_imp op_le fun x y H Q ⟨ι, M, dx, dy, b, k, h1, h2, e, q⟩ => by
  cases h1 <;> cases h2 <;> first | (simp [cmpD] at e; done) | (cases e; exact ⟨_, _, rfl, rfl, q⟩)
theorem cmp_gt : OpR X (compareOp .Gt) (rCmp (cx X ca) (cmpD .gt)) := opr_imp op_gt fun x y H Q ⟨ι, M, dx, dy, b, k, h1, h2, e, q⟩ => by
  cases h1 <;> cases h2 <;> first | (simp [cmpD] at e; done) | (cases e; exact ⟨_, _, rfl, rfl, q⟩)
theorem cmp_ge : OpR X (compareOp .GtE) (rCmp (cx X ca) (cmpD .ge)) := opr_imp op_ge fun x y H Q ⟨ι, M, dx, dy, b, k, h1, h2, e, q⟩ => by
  cases h1 <;> cases h2 <;> first | (simp [cmpD] at e; done) | (cases e; exact ⟨_, _, rfl, rfl, q⟩)
theorem cmp_is : OpR X (compareOp .Is) (rCmp (cx X ca) (cmpD .isn)) := opr_imp op_isN fun x y H Q ⟨ι, M, dx, dy, b, k, h1, h2, e, q⟩ => by
  cases h1 <;> cases h2 <;> first | (simp [cmpD] at e; done) | (simp only [cmpD] at e; cases e; exact ⟨rfl, by simpa using q⟩)
theorem cmp_isnot : OpR X (compareOp .IsNot) (rCmp (cx X ca) (cmpD .notn)) := opr_imp op_notN fun x y H Q ⟨ι, M, dx, dy, b, k, h1, h2, e, q⟩ => by
  cases h1 <;> cases h2 <;> first | (simp [cmpD] at e; done) | (simp only [cmpD] at e; cases e; exact ⟨rfl, by simpa using q⟩)
end
end MP

set_option maxRecDepth 100000
set_option maxHeartbeats 1000000
/-! MP6: flat values, keys, dicts. -/
namespace MP
open PySem PySem.Spec PyProof.Rows L2

section
variable {C : RC} {ι : List Addr} {M : Addr → Prop} {H : Hp}
theorem Rep.flat {v : V} {d : D} (r : Rep C ι M H v d) (f : flatD d = true) : flatV v = true := by
  cases r <;> first | rfl | (simp [flatD] at f; done)
theorem VRep.flat {v : V} {d : D} (r : VRep C ι M H v d) (f : flatD d = true) : flatV v = true := by
  cases r <;> first | rfl | (simp [flatD] at f; done)
theorem Reps.flat : ∀ {ds : List D} {vs : List V}, Reps C ι M H vs ds → ds.all flatD = true → vs.all flatV = true
  | _, _, .nil, _ => rfl
  | _, _, .cons h r, f => by
    rw [List.all_cons, Bool.and_eq_true] at f
    rw [List.all_cons, h.flat f.1, r.flat f.2]; rfl
/-- a flat value is told by its data -/
theorem flat_val {v : V} {d : D} (r : Rep C ι M H v d) (f : flatD d = true) : VRep C ι M H v d := r.vw fun k z => by rw [z] at f; cases f
theorem eqV_eqD {v w : V} {d e : D} (r : VRep C ι M H v d) (s : VRep C ι M H w e) (f : flatD d = true) (g : flatD e = true) : eqV v w = eqD d e := by
  cases r <;> first
    | (simp [flatD] at f; done)
    | (cases s <;> first
        | (simp [flatD] at g; done)
        | rfl
        | (simp only [eqV, eqD, Bool.beq_eq_decide_eq])
        | (simp only [eqV, eqD]; simp))
theorem inV_eq {w : V} {e : D} (s : VRep C ι M H w e) (g : flatD e = true) : ∀ {ds : List D} {vs : List V}, Reps C ι M H vs ds → ds.all flatD = true → inV w vs = ds.any fun z => eqD z e
  | _, _, .nil, _ => rfl
  | _, _, .cons h r, f => by
    rw [List.all_cons, Bool.and_eq_true] at f
    show ((eqV _ w) || inV w _) = _
    rw [List.any_cons, inV_eq s g r f.2, eqV_eqD (flat_val h f.1) s f.1 g]
theorem any_pd {x : D} {k j : Nat} (fx : fit x j = true) : ∀ {l : List D}, fitL l k = true → ((pdL l).any fun z => PyData.eqv z x.pd) = l.any fun z => eqD z x
  | [], _ => rfl
  | d :: r, f => by
    obtain ⟨h1, h2⟩ := Bool.and_eq_true_iff.mp (show (fit d k && fitL r k) = true from f)
    show (PyData.eqv d.pd x.pd || _) = _
    rw [List.any_cons, eqv_eqD d x k j h1 fx, any_pd fx h2]
end

/-! ### keys -/
theorem eqD_kD (a b : Key) : eqD (kD a) (kD b) = decide (a = b) := by
  cases a <;> cases b <;> simp [kD, eqD]
theorem kk_kD (a : Key) : kk (kD a) = 0 := by cases a <;> rfl
mutual
theorem nk_nkD : ∀ k : NestedKey, (nkD k).nk = some k
  | .none => rfl
  | .num _ => rfl
  | .text _ => rfl
  | .tup l => by
    show (D.nkl (nkDl l)).map NestedKey.tup = _
    rw [nkl_nkDl l]; rfl
theorem nkl_nkDl : ∀ l : List NestedKey, D.nkl (nkDl l) = some l
  | [] => rfl
  | k :: r => by
    show (match (nkD k).nk, D.nkl (nkDl r) with | some k, some l => some (k :: l) | _, _ => none) = _
    rw [nk_nkD k, nkl_nkDl r]
end
mutual
theorem nkD_of : ∀ (d : D) (k : NestedKey), d.nk = some k → d = nkD k
  | .non, _, h => by cases h; rfl
  | .int _, _, h => by cases h; rfl
  | .str _, _, h => by cases h; rfl
  | .tup l, k, h => by
    have h' : (D.nkl l).map NestedKey.tup = some k := h
    obtain ⟨m, e, rfl⟩ := Option.map_eq_some_iff.mp h'
    rw [nkDl_of l m e]; rfl
  | .bl _, _, h => by cases h
  | .lst _, _, h => by cases h
  | .dct _, _, h => by cases h
  | .ins _ _, _, h => by cases h
  | .ref _, _, h => by cases h
  | .scr _, _, h => by cases h
theorem nkDl_of : ∀ (l : List D) (m : List NestedKey), D.nkl l = some m → l = nkDl m
  | [], _, h => by cases h; rfl
  | d :: r, m, h => by
    have h' : (match d.nk, D.nkl r with | some k, some l => some (k :: l) | _, _ => none) = some m := h
    cases e1 : d.nk with
    | none => rw [e1] at h'; cases h'
    | some k => cases e2 : D.nkl r with
      | none => rw [e1, e2] at h'; cases h'
      | some l =>
        rw [e1, e2] at h'
        cases h'
        rw [nkD_of d k e1, nkDl_of r l e2]; rfl
end
mutual
theorem eqD_nkD : ∀ a b : NestedKey, eqD (nkD a) (nkD b) = NestedKey.beq a b
  | .none, b => by cases b <;> rfl
  | .num _, b => by cases b <;> rfl
  | .text _, b => by cases b <;> rfl
  | .tup l, b => by
    cases b with
    | tup m => exact eqDL_nkDl l m
    | _ => rfl
theorem eqDL_nkDl : ∀ a b : List NestedKey, eqDL (nkDl a) (nkDl b) = NestedKey.beqAll a b
  | [], b => by cases b <;> rfl
  | x :: xs, b => by
    cases b with
    | nil => rfl
    | cons y ys =>
      show (eqD (nkD x) (nkD y) && eqDL (nkDl xs) (nkDl ys)) = (NestedKey.beq x y && NestedKey.beqAll xs ys)
      rw [eqD_nkD x y, eqDL_nkDl xs ys]
end
theorem eqD_nk (a b : NestedKey) : eqD (nkD a) (nkD b) = decide (a = b) := by rw [NestedKey.decide_eq]; exact eqD_nkD a b
theorem kk_tup {k : NestedKey} (t : TupKey k) : kk (nkD k) = 1 := by
  obtain ⟨⟨l, rfl⟩, h⟩ := t
  show (match D.nkl (nkDl l) with | some k => if (NestedKey.tup k).depth ≤ 8 then 1 else 2 | none => 2) = 1
  rw [nkl_nkDl]
  show (if (NestedKey.tup l).depth ≤ 8 then 1 else 2) = 1
  rw [if_pos h]
theorem of_kk1 {d : D} (z : kk d = 1) : ∃ k, d = nkD k ∧ TupKey k := by
  cases d with
  | tup l =>
    have z' : (match D.nkl l with | some k => if (NestedKey.tup k).depth ≤ 8 then 1 else 2 | none => 2) = 1 := z
    cases e : D.nkl l with
    | none => rw [e] at z'; cases z'
    | some m =>
      rw [e] at z'
      have z2 : (if (NestedKey.tup m).depth ≤ 8 then 1 else 2) = 1 := z'
      by_cases h : (NestedKey.tup m).depth ≤ 8
      · exact ⟨.tup m, by rw [nkDl_of l m e]; rfl, ⟨m, rfl⟩, h⟩
      · rw [if_neg h] at z2; cases z2
  | _ => cases z
theorem kk_lt (d : D) (z : kk d ≠ 2) : kk d = 0 ∨ kk d = 1 := by
  cases d with
  | tup l =>
    have e : kk (.tup l) = (match D.nkl l with | some k => if (NestedKey.tup k).depth ≤ 8 then 1 else 2 | none => 2) := rfl
    rw [e] at z ⊢
    cases q : D.nkl l with
    | none => rw [q] at z; exact absurd rfl z
    | some m =>
      rw [q] at z
      show (if (NestedKey.tup m).depth ≤ 8 then 1 else 2) = 0 ∨ (if (NestedKey.tup m).depth ≤ 8 then 1 else 2) = 1
      have z' : ¬ (if (NestedKey.tup m).depth ≤ 8 then 1 else 2) = 2 := z
      by_cases h : (NestedKey.tup m).depth ≤ 8
      · rw [if_pos h]; exact .inr rfl
      · rw [if_neg h] at z'; exact absurd rfl z'
  | int _ => exact .inl rfl
  | str _ => exact .inl rfl
  | _ => exact absurd rfl z
section
variable {C : RC} {ι : List Addr} {M : Addr → Prop} {H : Hp}
theorem key_of_kk {v : V} {d : D} (r : Rep C ι M H v d) (z : kk d = 0) : ∃ k : Key, d = kD k ∧ v = kV k := by
  cases r with
  | int i => exact ⟨.inl i, rfl, rfl⟩
  | str x => exact ⟨.inr x, rfl, rfl⟩
  | @tup a vs ds h r =>
    rcases kk_lt (.tup ds) (by rw [z]; decide) with q | q
    · obtain ⟨k, e, t⟩ : ∃ k, D.tup ds = nkD k ∧ TupKey k := by
        have e : kk (.tup ds) = (match D.nkl ds with | some k => if (NestedKey.tup k).depth ≤ 8 then 1 else 2 | none => 2) := rfl
        rw [e] at q
        cases q2 : D.nkl ds with
        | none => rw [q2] at q; cases q
        | some m =>
          rw [q2] at q
          have q3 : (if (NestedKey.tup m).depth ≤ 8 then 1 else 2) = 0 := q
          split at q3 <;> cases q3
      rw [e, kk_tup t] at z
      cases z
    · rw [z] at q; cases q
  | _ => cases z

/-! ### what a dict's entries stand for -/
theorem RepKs.get : ∀ {ds : List (D × D)} {kvs : List (Key × V)}, RepKs C ι M H kvs ds → ∀ (k : Key), (∀ d, dget ds (kD k) = some d → ∃ v, valV kvs k = some v ∧ Rep C ι M H v d) ∧ (dget ds (kD k) = none → valV kvs k = none)
  | _, _, .nil, k => ⟨fun d e => (by cases e), fun _ => rfl⟩
  | _, _, @RepKs.cons _ _ _ _ j v vs d ds h r, k => by
    have ih := RepKs.get r k
    have e0 : dget ((kD j, d) :: ds) (kD k) = if eqD (kD j) (kD k) = true then some d else dget ds (kD k) := by
      unfold dget
      rw [List.find?_cons]
      show Option.map (fun x : D × D => x.2) (match eqD (kD j) (kD k) with | true => some (kD j, d) | false => ds.find? fun p => eqD p.1 (kD k)) = _
      cases eqD (kD j) (kD k) <;> rfl
    rw [e0, eqD_kD]
    by_cases e : j = k
    · subst e
      rw [if_pos (decide_eq_true rfl), valV_pos rfl]
      exact ⟨fun d' q => (by cases q; exact ⟨v, rfl, h⟩), fun q => (by cases q)⟩
    · rw [if_neg (by rw [decide_eq_false e]; exact Bool.false_ne_true), valV_neg (by exact e)]
      exact ih
theorem RepKs.isSome {ds : List (D × D)} {kvs : List (Key × V)} (r : RepKs C ι M H kvs ds) (k : Key) : (valV kvs k).isSome = (dget ds (kD k)).isSome := by
  cases e : dget ds (kD k) with
  | none => rw [(r.get k).2 e]; rfl
  | some d => obtain ⟨v, h, _⟩ := (r.get k).1 d e; rw [h]; rfl
theorem RepKs.length : ∀ {ds : List (D × D)} {kvs : List (Key × V)}, RepKs C ι M H kvs ds → kvs.length = ds.length
  | _, _, .nil => rfl
  | _, _, .cons _ r => congrArg (· + 1) r.length
theorem RepTs.length : ∀ {ds : List (D × D)} {l : List (NestedKey × Addr × V)}, RepTs C ι M H l ds → l.length = ds.length
  | _, _, .nil => rfl
  | _, _, .cons _ _ _ r => congrArg (· + 1) r.length
/-- put, in a list of entries: in its place or at the end -/
theorem RepKs.put : ∀ {ds : List (D × D)} {kvs : List (Key × V)}, RepKs C ι M H kvs ds → ∀ (k : Key) {v : V} {d : D}, Rep C ι M H v d → (kvs.map (·.1)).Nodup → RepKs C ι M H (putK kvs k v) (dput ds (kD k) d)
  | _, _, .nil, k, v, d, h, _ => .cons h .nil
  | _, _, @RepKs.cons _ _ _ _ j u vs c ds h1 r, k, v, d, h, nd => by
    rw [List.map_cons, List.nodup_cons] at nd
    have e0 : dput ((kD j, c) :: ds) (kD k) d = if eqD (kD j) (kD k) = true then (kD j, d) :: ds else (kD j, c) :: dput ds (kD k) d := rfl
    rw [e0, eqD_kD]
    by_cases e : j = k
    · subst e
      rw [if_pos (decide_eq_true rfl)]
      have : putK ((j, u) :: vs) j v = (j, v) :: vs := by
        unfold putK
        rw [if_pos (by simp), List.map_cons, if_pos rfl]
        congr 1
        rw [List.map_congr_left (g := id)]
        · simp
        · intro p hp
          rw [if_neg]
          · rfl
          · intro q
            exact nd.1 (List.mem_map.mpr ⟨p, hp, q⟩)
      rw [this]
      exact .cons h r
    · rw [if_neg (by rw [decide_eq_false e]; exact Bool.false_ne_true)]
      have : putK ((j, u) :: vs) k v = (j, u) :: putK vs k v := by
        unfold putK
        rw [List.any_cons, decide_eq_false (show ¬ (j, u).1 = k from e), Bool.false_or]
        split
        · rw [List.map_cons, if_neg (show ¬ (j, u).1 = k from e)]
        · rfl
      rw [this]
      exact .cons h1 (RepKs.put r k h nd.2)
end
end MP

set_option maxRecDepth 100000
set_option maxHeartbeats 1000000
/-! MP7: dicts at the machine's level; in, not in, d[k], d.get. -/
namespace MP
open PySem PySem.Spec PyProof.Rows L2

def MixAt (P : Program) (w : World) (h : Heap) (a : Addr) (kvs : List (Key × V)) : Prop :=
  (a == sysModules) = false ∧ kvs.length ≤ sizeLine ∧ ∃ vs, KV kvs vs ∧ h.DictOf (mixKind P w) a vs
def SameT (p : NestedKey × Addr × V) (q : NestedKey × Addr × Value) : Prop := p.1 = q.1 ∧ p.2.1 = q.2.1 ∧ RelV p.2.2 q.2.2
def NstAt (P : Program) (w : World) (h : Heap) (a : Addr) (l : List (NestedKey × Addr × V)) : Prop :=
  (a == sysModules) = false ∧ l.length ≤ sizeLine ∧ ∃ xs, Paired SameT l xs ∧ h.DictOfH (nestedKind P w) a xs
def valT (l : List (NestedKey × Addr × V)) (k : NestedKey) : Option V := (l.find? fun x => decide (x.1 = k)).map (·.2.2)

section
variable {C : RC} {ι : List Addr} {M : Addr → Prop} {H : Hp}
theorem RepGs.ks : ∀ {ds : List (D × D)} {xs : List (Str × V)}, RepGs C ι M H xs ds → RepKs C ι M H (xs.map fun p => (Sum.inr p.1, p.2)) ds
  | _, _, .nil => .nil
  | _, _, .cons h r => .cons (k := .inr _) h r.ks
theorem RepTs.get : ∀ {ds : List (D × D)} {l : List (NestedKey × Addr × V)}, RepTs C ι M H l ds → ∀ (k : NestedKey), (∀ d, dget ds (nkD k) = some d → ∃ v, valT l k = some v ∧ Rep C ι M H v d) ∧ (dget ds (nkD k) = none → valT l k = none)
  | _, _, .nil, k => ⟨fun d e => (by cases e), fun _ => rfl⟩
  | _, _, @RepTs.cons _ _ _ _ j b v vs d ds _ _ h r, k => by
    have ih := RepTs.get r k
    have e0 : dget ((nkD j, d) :: ds) (nkD k) = if eqD (nkD j) (nkD k) = true then some d else dget ds (nkD k) := by
      unfold dget
      rw [List.find?_cons]
      show Option.map (fun x : D × D => x.2) (match eqD (nkD j) (nkD k) with | true => some (nkD j, d) | false => ds.find? fun p => eqD p.1 (nkD k)) = _
      cases eqD (nkD j) (nkD k) <;> rfl
    have e1 : valT ((j, b, v) :: vs) k = if j = k then some v else valT vs k := by
      unfold valT
      rw [List.find?_cons]
      show Option.map (fun x : NestedKey × Addr × V => x.2.2) (match decide (j = k) with | true => some (j, b, v) | false => vs.find? fun x => decide (x.1 = k)) = _
      by_cases e : j = k
      · rw [decide_eq_true e, if_pos e]; rfl
      · rw [decide_eq_false e, if_neg e]
    rw [e0, e1, eqD_nk]
    by_cases e : j = k
    · rw [if_pos (decide_eq_true e), if_pos e]
      exact ⟨fun d' q => (by cases q; exact ⟨v, rfl, h⟩), fun q => (by cases q)⟩
    · rw [if_neg (by rw [decide_eq_false e]; exact Bool.false_ne_true), if_neg e]
      exact ih
theorem RepTs.isSome {ds : List (D × D)} {l : List (NestedKey × Addr × V)} (r : RepTs C ι M H l ds) (k : NestedKey) : (valT l k).isSome = (dget ds (nkD k)).isSome := by
  cases e : dget ds (nkD k) with
  | none => rw [(r.get k).2 e]; rfl
  | some d => obtain ⟨v, h, _⟩ := (r.get k).1 d e; rw [h]; rfl
theorem SameT.val {k : NestedKey} : ∀ {l : List (NestedKey × Addr × V)} {xs : List (NestedKey × Addr × Value)}, Paired SameT l xs → RelO (valT l k) ((atKey xs k).map (·.2))
  | _, _, .nil => True.intro
  | (j, b, v) :: l, (j', b', u) :: xs, .cons h r => by
    obtain ⟨e1, e2, e3⟩ := h
    have ih := SameT.val (k := k) r
    have e1' : j = j' := e1
    subst e1'
    have q1 : valT ((j, b, v) :: l) k = if j = k then some v else valT l k := by
      unfold valT
      rw [List.find?_cons]
      show Option.map (fun x : NestedKey × Addr × V => x.2.2) (match decide (j = k) with | true => some (j, b, v) | false => l.find? fun x => decide (x.1 = k)) = _
      by_cases e : j = k
      · rw [decide_eq_true e, if_pos e]; rfl
      · rw [decide_eq_false e, if_neg e]
    have q2 : (atKey ((j, b', u) :: xs) k).map (·.2) = if j = k then some u else (atKey xs k).map (·.2) := by
      unfold atKey
      rw [List.find?_cons]
      by_cases e : j = k
      · rw [decide_eq_true e, if_pos e]; rfl
      · rw [decide_eq_false e, if_neg e]
    rw [q1, q2]
    by_cases e : j = k
    · rw [if_pos e, if_pos e]; exact e3
    · rw [if_neg e, if_neg e]; exact ih
end

section
variable {X : Cx} {ca : Nat → Addr} {pins : List (Addr × Obj)} {σ : L2.St} {s : Shared} {ι : List Addr} {M : Addr → Prop} {H : Hp}
mutual
theorem nested_is (I : Inv X pins σ H s) : ∀ (k : NestedKey) (v : V) (u : Value), Rep (cx X ca) ι M H v (nkD k) → RelV v u → NestedIs s.heap k u
  | .none, v, u, r, q => by cases r; cases q; exact .none
  | .num i, v, u, r, q => by cases r; obtain ⟨t, rfl⟩ := q; exact .int i t
  | .text x, v, u, r, q => by cases r; obtain ⟨t, rfl⟩ := q; exact .text x t
  | .tup l, v, u, r, q => by
    have r' : Rep (cx X ca) ι M H v (.tup (nkDl l)) := r
    cases r' with
    | tup h rs =>
      cases q
      obtain ⟨its, rv, ⟨o, h1, h2, n, h3⟩, _⟩ := I.tuple h.sq
      exact .tup h1 h2 h3 (by simpa using nested_all I l _ its rs rv)
theorem nested_all (I : Inv X pins σ H s) : ∀ (l : List NestedKey) (vs : List V) (us : List Value), Reps (cx X ca) ι M H vs (nkDl l) → Vals vs us → NestedAll s.heap l us
  | [], vs, us, r, q => by
    have r' : Reps (cx X ca) ι M H vs [] := r
    cases r'; cases q; exact .nil
  | k :: l, vs, us, r, q => by
    have r' : Reps (cx X ca) ι M H vs (nkD k :: nkDl l) := r
    cases r' with
    | cons r1 r2 => cases q with
      | cons q1 q2 => exact .cons (nested_is I k _ _ r1 q1) (nested_all I l _ _ r2 q2)
end

theorem dct_at {a : Addr} {ds : List (D × D)} (I : Inv X pins σ H s) (r : VRep (cx X ca) ι M H (.ref a) (.dct ds)) :
    (∃ kvs, MixAt X.prog X.w s.heap a kvs ∧ RepKs (cx X ca) ι M H kvs ds) ∨ (∃ l, NstAt X.prog X.w s.heap a l ∧ RepTs (cx X ca) ι M H l ds) := by
  cases r with
  | dctK h r =>
    obtain ⟨z, hd, vs, rel, dd⟩ := dk_rd I.hok h
    exact .inl ⟨_, ⟨hd, z, vs, rel, dd⟩, r⟩
  | @dctT _ l _ h r =>
    obtain ⟨⟨z, hd, nd, o, es, ep, h1, h2, h3, pr⟩, _, _⟩ := h.ok I.hok
    refine .inr ⟨l, ⟨hd, z, ?_⟩, r⟩
    -- the entries as the library has them
    have mk : ∀ {l : List (NestedKey × Addr × V)} {es : List DictEntry} {ds : List (D × D)}, Paired (fun (p : NestedKey × Addr × V) (e : DictEntry) => e.hash = p.1.hash X.w ∧ e.key = .ref p.2.1 ∧ RelV p.2.2 e.val) l es → RepTs (cx X ca) ι M H l ds →
        ∃ xs : List (NestedKey × Addr × Value), Paired SameT l xs ∧ es = xs.map (entryOfKey (nestedKind X.prog X.w)) ∧ (∀ x ∈ xs, (nestedKind X.prog X.w).is s.heap x.1 x.2.1) ∧ xs.map (·.1) = l.map (·.1) := by
      intro l es ds pr rt
      induction pr generalizing ds with
      | nil => exact ⟨[], .nil, rfl, fun x hx => (nomatch hx), rfl⟩
      | @cons p e ps es hp t ih =>
        cases rt with
        | cons tk rb rv rt =>
          obtain ⟨xs, g1, g2, g3, g4⟩ := ih rt
          obtain ⟨k1, k2, k3⟩ := hp
          refine ⟨(_, _, e.val) :: xs, .cons ⟨rfl, rfl, k3⟩ g1, ?_, ?_, ?_⟩
          · rw [List.map_cons, ← g2]
            congr 1
            obtain ⟨eh, ek, ev⟩ := e
            simp only at k1 k2
            subst k1 k2
            rfl
          · intro x hx
            rcases List.mem_cons.mp hx with q | hx
            · subst q
              exact ⟨nested_is I _ _ _ rb rfl, tk.2⟩
            · exact g3 x hx
          · rw [List.map_cons, List.map_cons, g4]
    obtain ⟨xs, g1, g2, g3, g4⟩ := mk pr r
    exact ⟨xs, g1, o, es, ep, h1, h2, h3, g2, g3, by rw [g4]; exact nd⟩
  | @dctG _ xs _ h r =>
    obtain ⟨es, n, hl, hd, hz, nd, pr⟩ := h
    refine .inl ⟨_, ⟨hd, by rw [List.length_map]; exact hz, ?_⟩, r.ks⟩
    have mk : ∀ {xs : List (Str × V)} {es : List DictEntry}, Paired (fun (p : Str × V) (e : DictEntry) => (∃ t, e.key = .str p.1 t) ∧ e.hash = hashStr X.w p.1 ∧ RelV p.2 e.val) xs es →
        ∃ vs : List (Key × Value), KV (xs.map fun p => ((Sum.inr p.1 : Key), p.2)) vs ∧ Pairs (mixKind X.prog X.w) es vs ∧ (∀ e ∈ es, ∃ k, (mixKind X.prog X.w).is k e.key = true ∧ e.hash = (mixKind X.prog X.w).hash k) ∧ vs.map (·.1) = xs.map fun p => (Sum.inr p.1 : Key) := by
      intro xs es pr
      induction pr with
      | nil => exact ⟨[], .nil, .nil, fun e he => (nomatch he), rfl⟩
      | @cons p e ps es hp t ih =>
        obtain ⟨vs, g1, g2, g3, g4⟩ := ih
        obtain ⟨⟨tk, k1⟩, k2, k3⟩ := hp
        refine ⟨(.inr p.1, e.val) :: vs, .cons ⟨rfl, k3⟩ g1, .cons (by rw [k1]; exact mixKind_str _ _ _ _) rfl g2, ?_, by rw [List.map_cons, List.map_cons, g4]⟩
        intro e' he'
        rcases List.mem_cons.mp he' with q | he'
        · subst q
          exact ⟨.inr p.1, by rw [k1]; exact mixKind_str _ _ _ _, k2⟩
        · exact g3 e' he'
    obtain ⟨vs, g1, g2, g3, g4⟩ := mk pr
    refine ⟨vs, g1, _, es, n, I.kIn _ _ hl, ⟨rfl, rfl, rfl⟩, rfl, fun e he => g3 e (Array.mem_toList_iff.mpr he), g2, ?_⟩
    rw [g4]
    have inj : ∀ l : List Str, l.Nodup → (l.map fun x => (Sum.inr x : Key)).Nodup := by
      intro l
      induction l with
      | nil => intro _; exact List.nodup_nil
      | cons x r ih =>
        intro h
        rw [List.nodup_cons] at h
        rw [List.map_cons, List.nodup_cons]
        refine ⟨fun q => ?_, ih h.2⟩
        obtain ⟨y, hy, ey⟩ := List.mem_map.mp q
        cases ey
        exact h.1 hy
    have := inj _ nd
    rw [List.map_map] at this
    exact this
/-- an empty dict is of both kinds -/
theorem MixAt.nst {a : Addr} (m : MixAt X.prog X.w s.heap a []) : NstAt X.prog X.w s.heap a [] := by
  obtain ⟨hd, z, vs, rel, o, es, ep, h1, h2, h3, h4, h5, h6⟩ := m
  cases rel
  refine ⟨hd, z, [], .nil, o, es, ep, h1, h2, h3, ?_, fun x hx => (nomatch hx), List.nodup_nil⟩
  cases es with
  | mk l => cases h5; rfl
theorem NstAt.mix {a : Addr} (m : NstAt X.prog X.w s.heap a []) : MixAt X.prog X.w s.heap a [] := by
  obtain ⟨hd, z, xs, rel, o, es, ep, h1, h2, h3, h4, h5, h6⟩ := m
  cases rel
  have e : es = #[] := by
    cases es with
    | mk l => rw [List.map_nil] at h4; simp at h4; rw [h4]
  subst e
  exact ⟨hd, z, [], .nil, o, #[], ep, h1, h2, h3, fun e he => absurd he (by simp), .nil, List.nodup_nil⟩
/-- the dict and the key, of one kind -/
theorem dct_key {a : Addr} {ds : List (D × D)} {x : V} {dx : D} {u : Value} (I : Inv X pins σ H s) (r : VRep (cx X ca) ι M H (.ref a) (.dct ds)) (rx : Rep (cx X ca) ι M H x dx) (ru : RelV x u) (f : kfit ds dx = true) :
    (∃ k kvs, dx = kD k ∧ x = kV k ∧ MixAt X.prog X.w s.heap a kvs ∧ RepKs (cx X ca) ι M H kvs ds) ∨
    (∃ k b l, dx = nkD k ∧ TupKey k ∧ x = .ref b ∧ u = .ref b ∧ (nestedKind X.prog X.w).is s.heap k b ∧ NstAt X.prog X.w s.heap a l ∧ RepTs (cx X ca) ι M H l ds) := by
  have two : kk dx ≠ 2 := by
    cases ds with
    | nil =>
      have f' : (kk dx != 2) = true := f
      exact fun q => by rw [q] at f'; cases f'
    | cons p r =>
      obtain ⟨c, d⟩ := p
      have f' : (kk dx != 2 && kk c == kk dx) = true := f
      rw [Bool.and_eq_true] at f'
      exact fun q => by rw [q] at f'; cases f'.1
  have tupc : kk dx = 1 → ∃ k b, dx = nkD k ∧ TupKey k ∧ x = .ref b ∧ u = .ref b ∧ (nestedKind X.prog X.w).is s.heap k b := fun z => by
    obtain ⟨k, e, t⟩ := of_kk1 z
    subst e
    obtain ⟨⟨l, el⟩, hd⟩ := t
    subst el
    have rx' : Rep (cx X ca) ι M H x (.tup (nkDl l)) := rx
    cases rx' with
    | @tup b vs ds h rs =>
      cases ru
      exact ⟨.tup l, b, rfl, ⟨⟨l, rfl⟩, hd⟩, rfl, rfl, nested_is I _ _ _ rx rfl, hd⟩
  rcases dct_at I r with ⟨kvs, m, rk⟩ | ⟨l, m, rt⟩
  · cases rk with
    | nil =>
      rcases kk_lt dx two with z | z
      · obtain ⟨k, e1, e2⟩ := key_of_kk rx z
        exact .inl ⟨k, [], e1, e2, m, .nil⟩
      · obtain ⟨k, b, h1, h2, h3, h4, h5⟩ := tupc z
        exact .inr ⟨k, b, [], h1, h2, h3, h4, h5, m.nst, .nil⟩
    | @cons j v vs d ds h rk =>
      have f' : (kk dx != 2 && kk (kD j) == kk dx) = true := f
      rw [Bool.and_eq_true, kk_kD] at f'
      obtain ⟨k, e1, e2⟩ := key_of_kk rx (beq_iff_eq.mp f'.2).symm
      exact .inl ⟨k, _, e1, e2, m, .cons h rk⟩
  · cases rt with
    | nil =>
      rcases kk_lt dx two with z | z
      · obtain ⟨k, e1, e2⟩ := key_of_kk rx z
        exact .inl ⟨k, [], e1, e2, m.mix, .nil⟩
      · obtain ⟨k, b, h1, h2, h3, h4, h5⟩ := tupc z
        exact .inr ⟨k, b, [], h1, h2, h3, h4, h5, m, .nil⟩
    | @cons j b v vs d ds t hb h rt =>
      have f' : (kk dx != 2 && kk (nkD j) == kk dx) = true := f
      rw [Bool.and_eq_true, kk_tup t] at f'
      obtain ⟨k, b', h1, h2, h3, h4, h5⟩ := tupc (beq_iff_eq.mp f'.2).symm
      exact .inr ⟨k, b', _, h1, h2, h3, h4, h5, m, .cons t hb h rt⟩

theorem room_nest {A : Around} (hu : A.units + 10 < cLine) : (nestedKind X.prog X.w).room A.in1 := by
  show A.in1.units + 8 < cLine
  rw [Around.in1_units]; omega
/-- x in d -/
theorem in_dct {a : Addr} {ds : List (D × D)} {x : V} {dx : D} {u : Value} {A : Around} {E : Value → Shared → Prop} {Q : Value → Shared → Prop} (hu : A.units + 10 < cLine) (I : Inv X pins σ H s) (r : VRep (cx X ca) ι M H (.ref a) (.dct ds)) (rx : Rep (cx X ca) ι M H x dx)
    (ru : RelV x u) (f : kfit ds dx = true) (h : ∀ t, Q (.bool (dget ds dx).isSome) { s with toks := t }) : wpAny (model X.prog X.w) A (compareOp .In u (.ref a)) Q E s := by
  rcases dct_key I r rx ru f with ⟨k, kvs, rfl, rfl, ⟨hd, z, vs, rel, dd⟩, rk⟩ | ⟨k, b, l, rfl, t, rfl, rfl, hk, ⟨hd, z, xs, rel, dd⟩, rt⟩
  · refine wpAny_in_of (kV_is ru) hd dd.mapOf ?_
    rw [← (rel.val k).isSome_eq, rk.isSome k]
    exact h _
  · refine wpAny_in_heap (room_nest hu) hk hd dd ?_
    have q := (SameT.val (k := k) rel).isSome_eq
    rw [Option.isSome_map] at q
    rw [← q, rt.isSome k]
    exact h _
theorem notin_dct {a : Addr} {ds : List (D × D)} {x : V} {dx : D} {u : Value} {A : Around} {E : Value → Shared → Prop} {Q : Value → Shared → Prop} (hu : A.units + 10 < cLine) (I : Inv X pins σ H s) (r : VRep (cx X ca) ι M H (.ref a) (.dct ds)) (rx : Rep (cx X ca) ι M H x dx)
    (ru : RelV x u) (f : kfit ds dx = true) (h : ∀ t, Q (.bool (!(dget ds dx).isSome)) { s with toks := t }) : wpAny (model X.prog X.w) A (compareOp .NotIn u (.ref a)) Q E s := by
  rcases dct_key I r rx ru f with ⟨k, kvs, rfl, rfl, ⟨hd, z, vs, rel, dd⟩, rk⟩ | ⟨k, b, l, rfl, t, rfl, rfl, hk, ⟨hd, z, xs, rel, dd⟩, rt⟩
  · refine wpAny_notIn_of (kV_is ru) hd dd.mapOf ?_
    rw [← (rel.val k).isSome_eq, rk.isSome k]
    exact h _
  · refine wpAny_notIn_heap (room_nest hu) hk hd dd ?_
    have q := (SameT.val (k := k) rel).isSome_eq
    rw [Option.isSome_map] at q
    rw [← q, rt.isSome k]
    exact h _
/-- d[x] -/
theorem item_dct {a : Addr} {ds : List (D × D)} {x : V} {dx d : D} {u : Value} {A : Around} {E : Value → Shared → Prop} {Q : Value → Shared → Prop} (hu : A.units + 10 < cLine) (I : Inv X pins σ H s) (r : VRep (cx X ca) ι M H (.ref a) (.dct ds)) (rx : Rep (cx X ca) ι M H x dx)
    (ru : RelV x u) (f : kfit ds dx = true) (e : dget ds dx = some d) (h : ∀ v w' t, Rep (cx X ca) ι M H v d → RelV v w' → Q w' { s with toks := t }) : wpAny (model X.prog X.w) A (getItem (.ref a) u) Q E s := by
  rcases dct_key I r rx ru f with ⟨k, kvs, rfl, rfl, ⟨hd, z, vs, rel, dd⟩, rk⟩ | ⟨k, b, l, rfl, t, rfl, rfl, hk, ⟨hd, z, xs, rel, dd⟩, rt⟩
  · obtain ⟨v, hv, rv⟩ := (rk.get k).1 d e
    obtain ⟨w', hw, rw'⟩ := RelO.some_of (v := v) (o := valueAt vs k) (by rw [← hv]; exact rel.val k)
    exact wpAny_getItem_of (kV_is ru) dd.mapOf hw (h v w' _ rv rw')
  · obtain ⟨v, hv, rv⟩ := (rt.get k).1 d e
    obtain ⟨w', hw, rw'⟩ := RelO.some_of (v := v) (o := (atKey xs k).map (·.2)) (by rw [← hv]; exact SameT.val rel)
    obtain ⟨p, hp, hp2⟩ := Option.map_eq_some_iff.mp hw
    refine wpAny_getItem_heap (room_nest hu) hk dd hp ?_
    rw [hp2]
    exact h v w' _ rv rw'
theorem dct_type {a : Addr} {ds : List (D × D)} (I : Inv X pins σ H s) (r : VRep (cx X ca) ι M H (.ref a) (.dct ds)) : s.TypeIs (.ref a) "dict" ∧ ∃ ob, s.heap.get? a = some ob ∧ ob.dict = none := by
  rcases dct_at I r with ⟨kvs, ⟨hd, z, vs, rel, dd⟩, rk⟩ | ⟨l, ⟨hd, z, xs, rel, dd⟩, rt⟩
  · obtain ⟨o, es, ep, h1, h2, _⟩ := dd
    exact ⟨⟨o, h1, h2.1⟩, o, h1, h2.2.1⟩
  · obtain ⟨o, es, ep, h1, h2, _⟩ := dd
    exact ⟨⟨o, h1, h2.1⟩, o, h1, h2.2.1⟩

/-! ### a dict's entries -/
inductive Ents (C : RC) (ι : List Addr) (M : Addr → Prop) (H : Hp) : List DictEntry → List (D × D) → Prop
  | nil : Ents C ι M H [] []
  | cons {en : DictEntry} {es : List DictEntry} {vk vv : V} {k d : D} {ds : List (D × D)} : RelV vk en.key → Rep C ι M H vk k → RelV vv en.val → Rep C ι M H vv d → Ents C ι M H es ds → Ents C ι M H (en :: es) ((k, d) :: ds)
theorem Ents.length {C : RC} {ι : List Addr} {M : Addr → Prop} {H : Hp} : ∀ {es : List DictEntry} {ds : List (D × D)}, Ents C ι M H es ds → es.length = ds.length
  | _, _, .nil => rfl
  | _, _, .cons _ _ _ _ r => congrArg (· + 1) r.length
theorem Ents.keys {C : RC} {ι : List Addr} {M : Addr → Prop} {H : Hp} : ∀ {es : List DictEntry} {ds : List (D × D)}, Ents C ι M H es ds → ∃ vs, Vals vs (es.map (·.key)) ∧ Reps C ι M H vs (ds.map (·.1))
  | _, _, .nil => ⟨[], .nil, .nil⟩
  | _, _, .cons r1 r2 _ _ r => let ⟨vs, h1, h2⟩ := r.keys; ⟨_ :: vs, .cons r1 h1, .cons r2 h2⟩
theorem Ents.get {C : RC} {ι : List Addr} {M : Addr → Prop} {H : Hp} : ∀ {es : List DictEntry} {ds : List (D × D)}, Ents C ι M H es ds → ∀ {i : Nat} {k d : D}, ds[i]? = some (k, d) → ∃ en vk, es[i]? = some en ∧ RelV vk en.key ∧ Rep C ι M H vk k
  | _, _, .nil, _, _, _, e => by simp at e
  | _, _, .cons r1 r2 _ _ _, 0, _, _, e => by simp at e; obtain ⟨rfl, rfl⟩ := e; exact ⟨_, _, rfl, r1, r2⟩
  | _, _, .cons _ _ _ _ r, i + 1, k, d, e => by
    obtain ⟨en, vk, h1, h2, h3⟩ := r.get (i := i) (k := k) (d := d) (by simpa using e)
    exact ⟨en, vk, by simpa using h1, h2, h3⟩
theorem ents_K {C : RC} {P : Program} {w : World} {ι : List Addr} {M : Addr → Prop} {H : Hp} : ∀ {ds : List (D × D)} {kvs : List (Key × V)} {vs : List (Key × Value)} {es : List DictEntry}, RepKs C ι M H kvs ds → KV kvs vs → Pairs (mixKind P w) es vs → Ents C ι M H es ds
  | _, _, _, _, .nil, .nil, .nil => .nil
  | _, _, _, _, @RepKs.cons _ _ _ _ k v _ d _ h r, .cons (b := q) e1 e2, .cons p1 p2 p3 => by
    obtain ⟨k', u⟩ := q
    obtain ⟨q1, q2⟩ := e1
    have q1 : k = k' := q1
    subst q1
    refine .cons (vk := kV k) (relV_key p1) ?_ ?_ h (ents_K r e2 p3)
    · cases k with
      | inl i => exact .int i
      | inr x => exact .str x
    · rw [p2]; exact q2
theorem ents_T {C : RC} {P : Program} {w : World} {ι : List Addr} {M : Addr → Prop} {H : Hp} : ∀ {ds : List (D × D)} {l : List (NestedKey × Addr × V)} {xs : List (NestedKey × Addr × Value)}, RepTs C ι M H l ds → Paired SameT l xs → Ents C ι M H (xs.map (entryOfKey (nestedKind P w))) ds
  | _, _, _, .nil, .nil => .nil
  | _, _, _, @RepTs.cons _ _ _ _ k b v _ d _ t h0 h r, .cons (b := q) e1 e2 => by
    obtain ⟨k', b', u⟩ := q
    obtain ⟨q1, q2, q3⟩ := e1
    have q2 : b = b' := q2
    subst q2
    exact .cons (vk := .ref b) rfl h0 q3 h (ents_T r e2)
theorem dct_raw {a : Addr} {ds : List (D × D)} (I : Inv X pins σ H s) (r : VRep (cx X ca) ι M H (.ref a) (.dct ds)) :
    (a == sysModules) = false ∧ ds.length ≤ sizeLine ∧ ∃ (o : Obj) (es : Array DictEntry) (ep : Nat), s.heap.get? a = some o ∧ o.ExactDict ∧ o.data = .dict es ep ∧ Ents (cx X ca) ι M H es.toList ds := by
  rcases dct_at I r with ⟨kvs, ⟨hd, z, vs, rel, dd⟩, rk⟩ | ⟨l, ⟨hd, z, xs, rel, dd⟩, rt⟩
  · obtain ⟨o, es, ep, h1, h2, h3, _, h5, _⟩ := dd
    exact ⟨hd, by rw [← rk.length]; exact z, o, es, ep, h1, h2, h3, ents_K rk rel h5⟩
  · obtain ⟨o, es, ep, h1, h2, h3, h4, _⟩ := dd
    exact ⟨hd, by rw [← rt.length]; exact z, o, es, ep, h1, h2, h3, by rw [h4]; exact ents_T rt rel⟩
end
end MP

set_option maxRecDepth 100000
set_option maxHeartbeats 1000000
/-! MP8: in, subscripts, slices, truth. -/
namespace MP
open PySem PySem.Spec PyProof.Rows L2

section
variable {C : RC} {ι : List Addr} {M : Addr → Prop} {H : Hp}
theorem VRep.key {v : V} {d : D} (r : VRep C ι M H v d) (h : kk d ≠ 2) : Rep C ι M H v d := by
  cases r with
  | int i => exact .int i
  | str x => exact .str x
  | tup a b => exact .tup a b
  | _ => exact absurd rfl h
theorem kfit_two {l : List (D × D)} {k : D} (f : kfit l k = true) : kk k ≠ 2 := by
  cases l with
  | nil =>
    have f' : (kk k != 2) = true := f
    exact fun q => by rw [q] at f'; cases f'
  | cons p r =>
    obtain ⟨c, d⟩ := p
    have f' : (kk k != 2 && kk c == kk k) = true := f
    rw [Bool.and_eq_true] at f'
    exact fun q => by rw [q] at f'; cases f'.1
end
section
variable {X : Cx} {ca : Nat → Addr}
theorem in_core {x y : V} {H : Hp} {ι : List Addr} {M : Addr → Prop} {dx dy : D} {b : Bool} (h1 : VRep (cx X ca) ι M H x dx) (h2 : VRep (cx X ca) ι M H y dy) (e : inD dx dy = some b) :
    (∃ d ds, Dp X.K H x d ∧ Dp X.K H y (.list ds) ∧ SeqAt.shaped d = true ∧ SeqAt.shaped (.list ds) = true ∧ b = ds.any fun z => PyData.eqv z d) ∨
    (∃ p xs, y = .ref p ∧ (SqL X.K H p xs ∨ SqT X.K H p xs) ∧ flatV x = true ∧ xs.all flatV = true ∧ b = inV x xs) ∨
    (∃ a ds, y = .ref a ∧ dy = .dct ds ∧ kfit ds dx = true ∧ b = (dget ds dx).isSome) ∨
    (∃ (c : Nat) (z : Str), x = .str ⟨#[c]⟩ ∧ y = .str z ∧ b = decide (c ∈ z.cps.toList)) := by
  cases h2 with
  | @lst p vs ds hp rs =>
    have e' : (if fit dx 60 && fitL ds 60 then some (ds.any fun z => eqD z dx) else none) = some b := by
      cases dx <;> exact e
    split at e'
    · rename_i hc
      obtain ⟨f1, f2⟩ := Bool.and_eq_true_iff.mp hc
      cases e'
      refine .inl ⟨dx.pd, pdL ds, h1.dp f1, .lst (SqL.of hp) (rs.dp f2), fit_shaped f1 (by decide), ?_, (any_pd f1 f2).symm⟩
      exact fit_shaped (d := .lst ds) (k := 61) f2 (by decide)
    · cases e'
  | @tup p vs ds hp rs =>
    have e' : (if flatD dx && ds.all flatD then some (ds.any fun z => eqD z dx) else none) = some b := by
      cases dx <;> exact e
    split at e'
    · rename_i hc
      obtain ⟨f1, f2⟩ := Bool.and_eq_true_iff.mp hc
      cases e'
      exact .inr (.inl ⟨p, vs, rfl, .inr hp.sq, h1.flat f1, rs.flat f2, (inV_eq h1 f1 rs f2).symm⟩)
    · cases e'
  | str z =>
    cases h1 with
    | str x =>
      have e' : (match x.cps.toList with | [c] => some (decide (c ∈ z.cps.toList)) | _ => none) = some b := e
      split at e'
      · rename_i c hc
        cases e'
        refine .inr (.inr (.inr ⟨c, z, ?_, rfl, rfl⟩))
        obtain ⟨l⟩ := x
        obtain ⟨m⟩ := l
        simp at hc
        rw [hc]
      · cases e'
    | _ => cases e
  | @dctK a kvs ds hp rs =>
    have e' : (if kfit ds dx then some (dget ds dx).isSome else none) = some b := by cases dx <;> exact e
    split at e'
    · rename_i hc
      cases e'
      exact .inr (.inr (.inl ⟨a, ds, rfl, rfl, hc, rfl⟩))
    · cases e'
  | @dctT a kvs ds hp rs =>
    have e' : (if kfit ds dx then some (dget ds dx).isSome else none) = some b := by cases dx <;> exact e
    split at e'
    · rename_i hc
      cases e'
      exact .inr (.inr (.inl ⟨a, ds, rfl, rfl, hc, rfl⟩))
    · cases e'
  | @dctG a kvs ds hp rs =>
    have e' : (if kfit ds dx then some (dget ds dx).isSome else none) = some b := by cases dx <;> exact e
    split at e'
    · rename_i hc
      cases e'
      exact .inr (.inr (.inl ⟨a, ds, rfl, rfl, hc, rfl⟩))
    · cases e'
  | _ => cases dx <;> cases e
theorem cmp_in (hu : X.A.units + 65 < cLine) : OpR X (compareOp .In) (rCmp (cx X ca) (cmpD .inn)) := by
  intro pins s σ H x y v u Q I rx ry ⟨ι, M, dx, dy, b, k, h1, h2, e, q⟩
  rcases in_core h1 h2 e with ⟨d, ds, a1, a2, a3, a4, eb⟩ | ⟨p, xs, rfl, a1, a2, a3, eb⟩ | ⟨a, ds, rfl, rfl, f, eb⟩ | ⟨c, z, rfl, rfl, eb⟩
  · subst eb
    exact op_inD hu pins s σ H x y v u Q I rx ry ⟨d, ds, a1, a2, a3, a4, q⟩
  · subst eb
    exact op_in_seq pins s σ H x _ v u Q I rx ry ⟨p, xs, rfl, a1, a2, a3, q⟩
  · subst eb
    cases ry
    exact in_dct (by omega) I h2 (h1.key (kfit_two f)) rx f fun t => ⟨.bl _, H, I.tok t, rfl, q⟩
  · subst eb
    exact op_in_sign pins s σ H _ _ v u Q I rx ry ⟨c, z, rfl, rfl, q⟩
theorem cmp_nin (hu : X.A.units + 65 < cLine) : OpR X (compareOp .NotIn) (rCmp (cx X ca) (cmpD .nin)) := by
  intro pins s σ H x y v u Q I rx ry ⟨ι, M, dx, dy, b, k, h1, h2, e, q⟩
  have e' : (inD dx dy).map (!·) = some b := e
  obtain ⟨c, ec, eb⟩ := Option.map_eq_some_iff.mp e'
  subst eb
  rcases in_core h1 h2 ec with ⟨d, ds, a1, a2, a3, a4, eb⟩ | ⟨p, xs, rfl, a1, a2, a3, eb⟩ | ⟨a, ds, rfl, rfl, f, eb⟩ | ⟨c', z, rfl, rfl, eb⟩
  · subst eb
    exact op_notInD hu pins s σ H x y v u Q I rx ry ⟨d, ds, a1, a2, a3, a4, q⟩
  · subst eb
    exact op_notIn_seq pins s σ H x _ v u Q I rx ry ⟨p, xs, rfl, a1, a2, a3, q⟩
  · subst eb
    cases ry
    exact notin_dct (by omega) I h2 (h1.key (kfit_two f)) rx f fun t => ⟨.bl _, H, I.tok t, rfl, q⟩
  · subst eb
    exact op_notIn_sign pins s σ H _ _ v u Q I rx ry ⟨c', z, rfl, rfl, q⟩

def copOf : Cop → CmpOp
  | .eq => .Eq | .ne => .NotEq | .lt => .Lt | .le => .LtE | .gt => .Gt | .ge => .GtE | .inn => .In | .nin => .NotIn | .isn => .Is | .notn => .IsNot
theorem cmp_ok (hu : X.A.units + 65 < cLine) : ∀ op, OpR X (compareOp (copOf op)) (rCmp (cx X ca) (cmpD op))
  | .eq => cmp_eq (by omega)
  | .ne => cmp_ne (by omega)
  | .lt => cmp_lt
  | .le => cmp_le
  | .gt => cmp_gt
  | .ge => cmp_ge
  | .inn => cmp_in hu
  | .nin => cmp_nin hu
  | .isn => cmp_is
  | .notn => cmp_isnot
theorem bin_ok : ∀ op, OpR X (binaryOp (bopOf op)) (rBin (cx X ca) (binD op))
  | .add => bin_add
  | .sub => bin_sub
  | .mul => bin_mul
  | .fdiv => bin_fdiv
  | .mod => bin_mod
  | .pow => bin_pow
  | .band => bin_band

/-! ### a[i] -/
theorem atI_rep {C : RC} {ι : List Addr} {M : Addr → Prop} {H : Hp} {vs : List V} {ds : List D} (r : Reps C ι M H vs ds) {i : Int} {d : D} (e : L2.atI ds i = some d) : ∃ v, L2.atI vs i = some v ∧ Rep C ι M H v d := by
  unfold L2.atI at e ⊢
  rw [r.length]
  obtain ⟨j, hj, hd⟩ := Option.bind_eq_some_iff.mp e
  obtain ⟨v, h1, h2⟩ := r.get hd
  exact ⟨v, by rw [hj]; exact h1, h2⟩
/-- the result is what the operation hands back of what is there -/
def rIdx (C : RC) (f : D → D → Option D) : R2 := fun x y H Q => ∃ ι M dx dy d, Known M H ∧ VRep C ι M H x dx ∧ Rep C ι M H y dy ∧ f dx dy = some d ∧ ∀ v, Rep C ι M H v d → Q v H
theorem idx_ok (hu : X.A.units + 65 < cLine) : IxR X (rIdx (cx X ca) idxD) := by
  intro value slice pins s σ H x y v u Q I rx ry ⟨ι, M, dx, dy, d, k, h1, h2, e, q⟩ hs
  have dc : ∀ {a : Addr} {ds : List (D × D)}, x = .ref a → VRep (cx X ca) ι M H (.ref a) (.dct ds) → (if kfit ds dy then dget ds dy else none) = some d → wpAny (model X.prog X.w) X.A (subscriptTail value slice v u) (EP X pins σ Q) X.xe s := fun {a ds} ex h e => by
    subst ex
    cases rx
    split at e
    · rename_i f
      exact tail_any (dct_type I h).1 slot_dict_getitem.lookup (item_dct (by omega) I h h2 ry f e fun v' w' t rv rw' => ⟨v', H, I.tok t, rw', q v' rv⟩) hs
    · cases e
  cases h1 with
  | @lst a vs ds hp rs => cases h2 with
    | int i =>
      obtain ⟨v', h3, h4⟩ := atI_rep rs (show L2.atI ds i = some d from e)
      exact ix_list value slice pins s σ H _ _ v u Q I rx ry ⟨a, vs, i, v', rfl, rfl, SqL.of hp, h3, q _ h4⟩ hs
    | _ => cases e
  | @scr a vs ds hp rs => cases h2 with
    | int i =>
      obtain ⟨v', h3, h4⟩ := atI_rep rs (show L2.atI ds i = some d from e)
      exact ix_list value slice pins s σ H _ _ v u Q I rx ry ⟨a, vs, i, v', rfl, rfl, hp, h3, q _ h4⟩ hs
    | _ => cases e
  | @tup a vs ds hp rs => cases h2 with
    | int i =>
      obtain ⟨v', h3, h4⟩ := atI_rep rs (show L2.atI ds i = some d from e)
      exact ix_tup value slice pins s σ H _ _ v u Q I rx ry ⟨a, vs, i, v', rfl, rfl, hp.sq, h3, q _ h4⟩ hs
    | _ => cases e
  | str z => cases h2 with
    | int i =>
      have e' : (if z.length ≤ lim then (L2.atI z.cps.toList i).map fun c => D.str ⟨#[c]⟩ else none) = some d := e
      split at e'
      · rename_i hc
        obtain ⟨c, h3, h4⟩ := Option.map_eq_some_iff.mp e'
        subst h4
        exact ix_str value slice pins s σ H _ _ v u Q I rx ry ⟨z, i, c, rfl, rfl, lim_le hc, h3, q _ (.str _)⟩ hs
      · cases e'
    | _ => cases e
  | @dctK a kvs ds hp rs => exact dc rfl (.dctK hp rs) (by cases dy <;> exact e)
  | @dctT a kvs ds hp rs => exact dc rfl (.dctT hp rs) (by cases dy <;> exact e)
  | @dctG a kvs ds hp rs => exact dc rfl (.dctG hp rs) (by cases dy <;> exact e)
  | _ => cases dy <;> cases e

/-! ### a[lo:hi] -/
theorem cut_rep {C : RC} {ι : List Addr} {M : Addr → Prop} {H : Hp} {vs : List V} {ds : List D} (r : Reps C ι M H vs ds) (lo hi : Option Int) : Reps C ι M H (L2.cutV vs lo hi) (cutL ds lo hi) := by
  have drop : ∀ (n : Nat) {vs : List V} {ds : List D}, Reps C ι M H vs ds → Reps C ι M H (vs.drop n) (ds.drop n) := by
    intro n
    induction n with
    | zero => intro vs ds r; exact r
    | succ n ih => intro vs ds r; cases r with
      | nil => exact .nil
      | cons _ r => exact ih r
  have take : ∀ (n : Nat) {vs : List V} {ds : List D}, Reps C ι M H vs ds → Reps C ι M H (vs.take n) (ds.take n) := by
    intro n
    induction n with
    | zero => intro vs ds r; exact .nil
    | succ n ih => intro vs ds r; cases r with
      | nil => exact .nil
      | cons h r => exact .cons h (ih r)
  unfold L2.cutV cutL
  rw [r.length]
  exact take _ (drop _ r)
def rSlc (C : RC) : V → Option Int → Option Int → Hp → VK → Prop := fun x lo hi H Q => ∃ ι M dx d, Known M H ∧ VRep C ι M H x dx ∧ slcD dx lo hi = some d ∧ ∀ H' v, Same H H' → Rep C ι M H' v d → Q v H'
theorem slc_ok : SlR X (rSlc (cx X ca)) := by
  intro pins s σ H x v vl vu lo hi sl Q I rx hs pl pu ⟨ι, M, dx, d, k, h1, e, q⟩
  cases h1 with
  | @lst a vs ds hp rs =>
    cases e
    exact sl_list pins s σ H _ v vl vu lo hi sl Q I rx hs pl pu ⟨a, vs, rfl, SqL.of hp, fun p np => q _ _ (same_laid np) (.lstNew k np (cut_rep rs lo hi))⟩
  | @tup a vs ds hp rs =>
    cases e
    refine sl_tupN pins s σ H _ v vl vu lo hi sl Q I rx hs pl pu ⟨a, vs, rfl, hp.sq, fun w => ?_, fun _ p o np ho => q _ _ (same_laid np) (.tupNew k np ho (cut_rep rs lo hi))⟩
    have eq : cutL ds lo hi = ds := by
      unfold cutL
      rw [← rs.length, w.1, w.2, Nat.sub_zero, List.drop_zero, rs.length, List.take_length]
    rw [eq] at q
    exact q _ _ Same.rfl' (.tup hp rs)
  | str z =>
    have e' : (if z.length ≤ lim then some (D.str (L2.cutS z lo hi)) else none) = some d := e
    split at e'
    · rename_i hc
      cases e'
      exact sl_str pins s σ H _ v vl vu lo hi sl Q I rx hs pl pu ⟨z, rfl, lim_le hc, q _ _ Same.rfl' (.str _)⟩
    · cases e'
  | _ => cases e
end
end MP

set_option maxRecDepth 100000
set_option maxHeartbeats 1000000
/-! MP8b: a[k] = v. -/
namespace MP
open PySem PySem.Spec PyProof.Rows L2
def putT (l : List (NestedKey × Addr × V)) (k : NestedKey) (b : Addr) (v : V) : List (NestedKey × Addr × V) :=
  if l.any (fun p => decide (p.1 = k)) then l.map (fun p => if p.1 = k then (p.1, p.2.1, v) else p) else l ++ [(k, b, v)]
section
variable {C : RC} {ι : List Addr} {M : Addr → Prop} {H : Hp}
theorem Reps.set : ∀ {ds : List D} {vs : List V}, Reps C ι M H vs ds → ∀ (j : Nat) {v : V} {d : D}, Rep C ι M H v d → Reps C ι M H (vs.set j v) (ds.set j d)
  | _, _, .nil, _, _, _, _ => .nil
  | _, _, .cons _ r, 0, _, _, h => .cons h r
  | _, _, .cons h0 r, j + 1, _, _, h => .cons h0 (r.set j h)
theorem RepTs.put : ∀ {ds : List (D × D)} {l : List (NestedKey × Addr × V)}, RepTs C ι M H l ds → ∀ (k : NestedKey) {b : Addr} {v : V} {d : D}, TupKey k → Rep C ι M H (.ref b) (nkD k) → Rep C ι M H v d → (l.map (·.1)).Nodup → RepTs C ι M H (putT l k b v) (dput ds (nkD k) d)
  | _, _, .nil, k, b, v, d, t, hb, h, _ => .cons t hb h .nil
  | _, _, @RepTs.cons _ _ _ _ j b0 u vs c ds t0 h0 h1 r, k, b, v, d, t, hb, h, nd => by
    rw [List.map_cons, List.nodup_cons] at nd
    have e0 : dput ((nkD j, c) :: ds) (nkD k) d = if eqD (nkD j) (nkD k) = true then (nkD j, d) :: ds else (nkD j, c) :: dput ds (nkD k) d := rfl
    rw [e0, eqD_nk]
    by_cases e : j = k
    · subst e
      rw [if_pos (decide_eq_true rfl)]
      have : putT ((j, b0, u) :: vs) j b v = (j, b0, v) :: vs := by
        unfold putT
        rw [if_pos (by simp), List.map_cons, if_pos rfl]
        congr 1
        rw [List.map_congr_left (g := id)]
        · simp
        · intro p hp
          rw [if_neg]
          · rfl
          · intro q
            exact nd.1 (List.mem_map.mpr ⟨p, hp, q⟩)
      rw [this]
      exact .cons t0 h0 h r
    · rw [if_neg (by rw [decide_eq_false e]; exact Bool.false_ne_true)]
      have : putT ((j, b0, u) :: vs) k b v = (j, b0, u) :: putT vs k b v := by
        unfold putT
        rw [List.any_cons, decide_eq_false (show ¬ (j, b0, u).1 = k from e), Bool.false_or]
        split
        · rw [List.map_cons, if_neg (show ¬ (j, b0, u).1 = k from e)]
        · rfl
      rw [this]
      exact .cons t0 h0 h1 (RepTs.put r k t hb h nd.2)
theorem putT_length (l : List (NestedKey × Addr × V)) (k : NestedKey) (b : Addr) (v : V) : (putT l k b v).length ≤ l.length + 1 := by
  unfold putT
  split
  · rw [List.length_map]; omega
  · rw [List.length_append]; exact Nat.le_refl _
theorem SameT.keys : ∀ {l : List (NestedKey × Addr × V)} {xs : List (NestedKey × Addr × Value)}, Paired SameT l xs → l.map (·.1) = xs.map (·.1)
  | _, _, .nil => rfl
  | _, _, .cons h r => by rw [List.map_cons, List.map_cons, h.1, SameT.keys r]
theorem SameT.any {k : NestedKey} : ∀ {l : List (NestedKey × Addr × V)} {xs : List (NestedKey × Addr × Value)}, Paired SameT l xs → l.any (fun p => decide (p.1 = k)) = xs.any (fun x => decide (x.1 = k))
  | _, _, .nil => rfl
  | _, _, .cons h r => by rw [List.any_cons, List.any_cons, h.1, SameT.any r]
theorem SameT.map {k : NestedKey} {v : V} {u : Value} (ru : RelV v u) : ∀ {l : List (NestedKey × Addr × V)} {xs : List (NestedKey × Addr × Value)}, Paired SameT l xs → Paired SameT (l.map fun p => if p.1 = k then (p.1, p.2.1, v) else p) (xs.map fun x => if x.1 = k then (x.1, x.2.1, u) else x)
  | _, _, .nil => .nil
  | _, _, .cons (a := p) (b := q) h r => by
    rw [List.map_cons, List.map_cons]
    refine .cons ?_ (SameT.map ru r)
    obtain ⟨h1, h2, h3⟩ := h
    rw [h1]
    split
    · exact ⟨rfl, h2, ru⟩
    · exact ⟨h1, h2, h3⟩
theorem SameT.put {k : NestedKey} {b : Addr} {v : V} {u : Value} (ru : RelV v u) {l : List (NestedKey × Addr × V)} {xs : List (NestedKey × Addr × Value)} (r : Paired SameT l xs) : Paired SameT (putT l k b v) (storedH xs k b u) := by
  have e : (atKey xs k).isSome = xs.any (fun x => decide (x.1 = k)) := by
    unfold atKey
    rw [Option.isSome_map]
    clear r
    induction xs with
    | nil => rfl
    | cons y ys ih =>
      rw [List.find?_cons, List.any_cons]
      cases decide (y.1 = k) with
      | true => rfl
      | false => simpa using ih
  unfold putT storedH
  rw [e, SameT.any r]
  split
  · exact SameT.map ru r
  · have ap : ∀ {l : List (NestedKey × Addr × V)} {xs : List (NestedKey × Addr × Value)}, Paired SameT l xs → Paired SameT (l ++ [(k, b, v)]) (xs ++ [(k, b, u)]) := by
      intro l xs r
      induction r with
      | nil => exact .cons ⟨rfl, rfl, ru⟩ .nil
      | cons h _ ih => exact .cons h ih
    exact ap r
def rPut (C : RC) : TSet := fun o i v H Qn => ∃ ι M a d dk dv d', o = .ref a ∧ ContAt C ι M H a d ∧ Rep C ι M H i dk ∧ Rep C ι M H v dv ∧ setD d dk dv = some d' ∧ ∀ o', (∀ M', Go ι M H ι M' (upd H a o') → ContAt C ι M' (upd H a o') a d') → Qn (upd H a o')
theorem set_put {X : Cx} {ca : Nat → Addr} (hu : X.A.units + 65 < cLine) : PSet X (rPut (cx X ca)) := by
  intro pins s σ H o i v ov iv u Qn I ro ri rv ⟨ι, M, a, d, dk, dv, d', eo, c, rk, rdv, eq, q⟩
  subst eo
  cases c with
  | @lst vs ds hh rs =>
    cases rk <;> first | (cases eq; done) | skip
    rename_i k
    obtain ⟨j, hj, rfl⟩ := Option.map_eq_some_iff.mp (show (L2.ixN ds.length k).map (fun j => D.lst (ds.set j dv)) = some d' from eq)
    exact set_list pins s σ H _ _ v ov iv u Qn I ro ri rv ⟨a, vs, k, j, rfl, rfl, hh, by rw [rs.length]; exact hj, q _ fun M' g => .lst upd_same ((rs.set j rdv).go g)⟩
  | @ins c dx vfs fs hh rf => cases eq
  | _ =>
    rename_i ds hh rs
    have mu : Mut (H a) := by rw [hh]; exact True.intro
    have rvr : VRep (cx X ca) ι M H (.ref a) (.dct ds) := by first | exact .dctK (.inl hh) rs | exact .dctT (.inl hh) rs
    clear rs hh
    have eq' : (if kfit ds dk && decide (ds.length < lim) then some (D.dct (dput ds dk dv)) else none) = some d' := eq
    split at eq'
    · rename_i hc
      obtain ⟨f, hl⟩ := Bool.and_eq_true_iff.mp hc
      have hl := of_decide_eq_true hl
      have hlim : lim < sizeLine := by decide
      cases eq'
      cases ro
      rcases dct_key I rvr rk ri f with ⟨k, kvs, rfl, rfl, ⟨hd, z, vs, rel, dd⟩, rks⟩ | ⟨k, b, l, rfl, t, rfl, rfl, hk, ⟨hd, z, xs, rel, dd⟩, rts⟩
      · have nd : (kvs.map (·.1)).Nodup := by
          obtain ⟨_, _, _, _, _, _, _, _, nd⟩ := dd
          rw [KV.keys rel]; exact nd
        refine wpAny_setItem_pairs (kV_is ri) dd (fun h' dd' hs => ?_) (by rw [← rel.length]; exact z)
        have he : ∃ q, h'.get? a = some q := let ⟨q, _, _, hq, _⟩ := dd'; ⟨q, hq⟩
        have hz : (putK kvs k v).length ≤ sizeLine := by have := length_putK kvs k v; have := rks.length; omega
        exact ⟨_, d_write I mu hs he (dk_new hz hd (rel.put k rv) dd'), q _ fun M' g => .dctK upd_same ((rks.put k rdv nd).go g)⟩
      · have nd : (l.map (·.1)).Nodup := by
          obtain ⟨_, _, _, _, _, _, _, _, nd⟩ := dd
          rw [SameT.keys rel]; exact nd
        cases ri
        have hb : Rep (cx X ca) ι M H (.ref b) (nkD k) := rk
        refine wpAny_setItem_heap (room_nest (A := X.A) (by omega)) hk dd (fun h' dd' hs => ?_) (by rw [← rel.length]; exact z)
        obtain ⟨o2, es, ep, g1, g2, g3, g4, g5, g6⟩ := dd'
        have rel' : Paired SameT (putT l k b v) (storedH xs k b u) := SameT.put rv rel
        have hz : (putT l k b v).length ≤ sizeLine := by have := putT_length l k b v; have := rts.length; omega
        have pr : ∀ {l : List (NestedKey × Addr × V)} {xs : List (NestedKey × Addr × Value)}, Paired SameT l xs → Paired (fun (p : NestedKey × Addr × V) (e : DictEntry) => e.hash = p.1.hash X.w ∧ e.key = .ref p.2.1 ∧ RelV p.2.2 e.val) l (xs.map (entryOfKey (nestedKind X.prog X.w))) := by
          intro l xs r
          induction r with
          | nil => exact .nil
          | cons h _ ih =>
            obtain ⟨h1, h2, h3⟩ := h
            rw [List.map_cons]
            exact .cons ⟨by rw [h1]; rfl, by rw [h2]; rfl, h3⟩ ih
        have new : ObjOk X.prog X.w (upd H a (.ext (dtPhi X.w a (putT l k b v)))) h' a (.ext (dtPhi X.w a (putT l k b v))) := by
          refine ⟨⟨hz, hd, by rw [SameT.keys rel']; exact g6, o2, es, ep, g1, g2, g3, by rw [g4]; exact pr rel'⟩, ⟨o2, g1⟩, fun h1 h2 p k => ?_⟩
          obtain ⟨p1, p2, p3, o3, es3, ep3, p4, p5⟩ := p
          exact ⟨p1, p2, p3, o3, es3, ep3, k _ p4, p5⟩
        exact ⟨_, d_write (t' := s.toks + (nestedKind X.prog X.w).draws k) I mu hs ⟨o2, g1⟩ new, q _ fun M' g => .dctT upd_same ((rts.put k t hb rdv nd).go g)⟩
    · cases eq'
end
end MP

set_option maxRecDepth 100000
set_option maxHeartbeats 1000000
/-! MP9: truth, built-in calls, isinstance. -/
namespace MP
open PySem PySem.Spec PyProof.Rows L2

inductive VReps (C : RC) (ι : List Addr) (M : Addr → Prop) (H : Hp) : List V → List D → Prop
  | nil : VReps C ι M H [] []
  | cons {v : V} {vs : List V} {d : D} {ds : List D} : VRep C ι M H v d → VReps C ι M H vs ds → VReps C ι M H (v :: vs) (d :: ds)
/-- a pure call on contents -/
def rC (C : RC) (f : List D → Option D) : List V → Hp → VK → Prop := fun xs H Q => ∃ ι M ds d, Known M H ∧ VReps C ι M H xs ds ∧ f ds = some d ∧ ∀ H' v, Same H H' → Rep C ι M H' v d → Q v H'
theorem cr_imp {X : Cx} {f : Value} {r r' : List V → Hp → VK → Prop} (h : CallR X f r) (i : ∀ xs H Q, r' xs H Q → r xs H Q) : CallR X f r' :=
  fun pins s σ H xs us Q I rv q => h pins s σ H xs us Q I rv (i xs H Q q)
theorem CallR.or {X : Cx} {f : Value} {r r' : List V → Hp → VK → Prop} (h : CallR X f r) (h' : CallR X f r') : CallR X f (fun xs H Q => r xs H Q ∨ r' xs H Q) :=
  fun pins s σ H xs us Q I rv q => q.elim (h pins s σ H xs us Q I rv) (h' pins s σ H xs us Q I rv)

section
variable {X : Cx} {ca : Nat → Addr}
theorem VRep.tru {C : RC} {ι : List Addr} {M : Addr → Prop} {H : Hp} {v : V} {d : D} {b : Bool} (r : VRep C ι M H v d) (e : truD d = some b) : TruV C.K v H b := by
  cases r with
  | non => cases e; rfl
  | bl b => cases e; rfl
  | int i => cases e; rfl
  | str x =>
    have e' : (if x.length ≤ lim then some (x.length != 0) else none) = some b := e
    split at e'
    · rename_i hc
      cases e'
      refine ⟨lim_le hc, ?_⟩
      cases x.length <;> rfl
    · cases e'
  | @tup a vs ds h r =>
    cases e
    refine .inr (.inl ⟨vs, h.sq, ?_⟩)
    cases r <;> rfl
  | @lst a vs ds h r =>
    cases e
    refine .inl ⟨vs, SqL.of h, ?_⟩
    cases r <;> rfl
  | scr h r => cases e
  | dctK h r => cases e
  | dctT h r => cases e
  | dctG h r => cases e
  | ins h r => cases e
end
section
variable {X : Cx} {ca : Nat → Addr}
def bltV : Blt → Value
  | .len => .builtin "len" | .int => .type "int" | .list => .type "list" | .tuple => .type "tuple" | .abs => .builtin "abs" | .max => .builtin "max" | .min => .builtin "min"
  | .str => .type "str" | .bool => .type "bool" | .dict => .type "dict" | .all => .builtin "all"
theorem Reps.len' {C : RC} {ι : List Addr} {M : Addr → Prop} {H : Hp} {ds : List D} {vs : List V} (r : Reps C ι M H vs ds) : (vs.length : Int) = (ds.length : Int) := by rw [r.length]
/-- an operation that makes a list or dict -/
def rCF (C : RC) (f : List D → Option D) : List V → Hp → VK → Prop := fun xs H Q => ∃ ι M ds d, Known M H ∧ VReps C ι M H xs ds ∧ f ds = some d ∧ ∀ p o, H p = none → (∀ M', Go ι M H ι M' (upd H p o) → ContAt C ι M' (upd H p o) p d) → Q (.ref p) (upd H p o)
theorem call_lenDct : CallR X (.builtin "len") (fun xs H Q => ∃ ι M a ds, xs = [V.ref a] ∧ VRep (cx X ca) ι M H (.ref a) (.dct ds) ∧ Q (.int ds.length) H) := by
  intro pins s σ H xs us Q I r ⟨ι, M, a, ds, ex, rv, q⟩
  subst ex
  obtain ⟨u, rfl, rx⟩ := vals1 r
  cases rx
  obtain ⟨lo, z, o, es, ep, h1, h2, h3, en⟩ := dct_raw I rv
  have el : (es.size : Int) = ds.length := by have := en.length; rw [Array.length_toList] at this; omega
  rw [sizeLine_eq] at z
  refine call_len_slot (n := (es.size : Int)) ⟨o, h1, h2.1⟩ F.slot_dict_len (fun Q' hq => call_len_raw lo ⟨o, h1, h2, h3⟩ hq) (by omega) (by omega) ?_
  exact ⟨.int ds.length, H, I.tok _, ⟨_, by rw [el]⟩, q⟩
theorem call_listDct (hc : X.calm = true) : CallR X (.type "list") (fun xs H Q => ∃ ι M a ds, xs = [V.ref a] ∧ VRep (cx X ca) ι M H (.ref a) (.dct ds) ∧ ∀ p vs, H p = none → Reps (cx X ca) ι M H vs (ds.map (·.1)) → Q (.ref p) (upd H p (.lst vs))) := by
  intro pins s σ H xs us Q I r ⟨ι, M, a, ds, ex, rv, q⟩
  subst ex
  obtain ⟨u, rfl, rx⟩ := vals1 r
  cases rx
  obtain ⟨lo, z, o, es, ep, h1, h2, h3, en⟩ := dct_raw I rv
  obtain ⟨vs, hv, rs⟩ := en.keys
  have el : es.size = ds.length := by have := en.length; rw [Array.length_toList] at this; omega
  refine PySem.W.kdl_call (kdl_raw lo h2 h3) (I.ok.hd hc) h1 (by rw [el]; exact z) fun h' tk acc' c' hkeep hS hacc => ?_
  have ea : acc'.toList = es.toList.map (·.key) := by
    refine List.ext_getElem? fun j => ?_
    by_cases hj : j < acc'.size
    · obtain ⟨e2, he2, ev⟩ := hacc.2 j acc'[j] (Array.getElem?_eq_getElem hj)
      rw [Array.getElem?_toList, Array.getElem?_eq_getElem hj, List.getElem?_map, Array.getElem?_toList, he2]
      exact congrArg some ev
    · rw [List.getElem?_eq_none (by simpa using Nat.le_of_not_lt hj), List.getElem?_eq_none (by have := hacc.1; simp; omega)]
  refine ⟨.ref s.heap.objs.size, upd H s.heap.objs.size (.lst vs), I.laid hkeep (Nat.le_refl _) (show ObjOk X.prog X.w _ _ _ (.lst vs) from ⟨?_, acc'.toList, c', by rw [ea]; exact hv, by rw [Array.toArray_toList]; exact hS⟩), rfl, q _ vs (I.hok.fresh (Nat.le_refl _)) rs⟩
  rw [rs.length, List.length_map]; exact z
theorem dct_mix {pins : List (Addr × Obj)} {σ : L2.St} {s : Shared} {ι : List Addr} {M : Addr → Prop} {H : Hp} {a : Addr} {ds : List (D × D)} (I : Inv X pins σ H s) (r : VRep (cx X ca) ι M H (.ref a) (.dct ds)) (f : (ds.all fun p => kk p.1 == 0) = true) :
    ∃ kvs, MixAt X.prog X.w s.heap a kvs ∧ RepKs (cx X ca) ι M H kvs ds := by
  rcases dct_at I r with q | ⟨l, m, rt⟩
  · exact q
  · cases rt with
    | nil => exact ⟨[], m.mix, .nil⟩
    | cons t h0 h rt =>
      rw [List.all_cons, kk_tup t] at f
      cases f
theorem call_dictDct : CallR X (.type "dict") (fun xs H Q => ∃ ι M a ds, xs = [V.ref a] ∧ VRep (cx X ca) ι M H (.ref a) (.dct ds) ∧ (ds.all fun p => kk p.1 == 0) = true ∧ ∀ p kvs, H p = none → RepKs (cx X ca) ι M H kvs ds → Q (.ref p) (upd H p (.dK kvs))) := by
  intro pins s σ H xs us Q I r ⟨ι, M, a, ds, ex, rv, f, q⟩
  subst ex
  obtain ⟨u, rfl, rx⟩ := vals1 r
  cases rx
  obtain ⟨kvs, ⟨lo, z, vs, rel, dd⟩, rk⟩ := dct_mix I rv f
  refine kt_call_dict lo dd (by rw [← rel.length]; exact z) fun h' d' hs => ?_
  have hm : (s.heap.objs.size == sysModules) = false := beq_eq_false_iff_ne.mpr (Nat.ne_of_gt I.big)
  refine ⟨.ref s.heap.objs.size, upd H s.heap.objs.size (.dK kvs), ?_, rfl, q _ kvs (I.hok.fresh (Nat.le_refl _)) rk⟩
  have new : ObjOk X.prog X.w (upd H s.heap.objs.size (.dK kvs)) h' s.heap.objs.size (.dK kvs) := ⟨z, hm, vs, rel, d'⟩
  exact I.laid (t' := s.toks) (fun b u e => (hs.2 b (Nat.ne_of_lt (Heap.lt_size e))).trans (Heap.get?_push_of_some _ e)) (Nat.le_refl _) new
theorem blt_len : CallR X (.builtin "len") (rC (cx X ca) (bltD .len)) := cr_imp (CallR.or (CallR.or call_len_seq call_len_str) (call_lenDct (ca := ca))) fun xs H Q ⟨ι, M, ds, d, k, rs, e, q⟩ => by
  cases rs with
  | nil => cases e
  | cons r rs =>
    cases rs with
    | cons r2 rs => cases r <;> cases e
    | nil =>
      cases r with
      | str x =>
        have e' : (if x.length ≤ lim then some (D.int x.length) else none) = some d := e
        split at e'
        · rename_i hc
          cases e'
          exact .inl (.inr ⟨x, rfl, lim_le hc, q _ _ Same.rfl' (.int _)⟩)
        · cases e'
      | @tup a vs ds h r => cases e; exact .inl (.inl ⟨a, vs, rfl, .inr h.sq, by rw [r.len']; exact q _ _ Same.rfl' (.int _)⟩)
      | @lst a vs ds h r => cases e; exact .inl (.inl ⟨a, vs, rfl, .inl (SqL.of h), by rw [r.len']; exact q _ _ Same.rfl' (.int _)⟩)
      | @scr a vs ds h r => cases e; exact .inl (.inl ⟨a, vs, rfl, .inl h, by rw [r.len']; exact q _ _ Same.rfl' (.int _)⟩)
      | @dctK a kvs ds h r => cases e; exact .inr ⟨ι, M, a, ds, rfl, .dctK h r, q _ _ Same.rfl' (.int _)⟩
      | @dctT a kvs ds h r => cases e; exact .inr ⟨ι, M, a, ds, rfl, .dctT h r, q _ _ Same.rfl' (.int _)⟩
      | @dctG a kvs ds h r => cases e; exact .inr ⟨ι, M, a, ds, rfl, .dctG h r, q _ _ Same.rfl' (.int _)⟩
      | _ => cases e
theorem blt_list (hc : X.calm = true) : CallR X (.type "list") (rCF (cx X ca) (bltD .list)) := cr_imp (CallR.or call_list_of (call_listDct (ca := ca) hc)) fun xs H Q ⟨ι, M, ds, d, k, rs, e, q⟩ => by
  cases rs with
  | nil => cases e
  | cons r rs =>
    cases rs with
    | cons r2 rs => cases r <;> cases e
    | nil =>
      have dc : ∀ {a ds}, VRep (cx X ca) ι M H (.ref a) (.dct ds) → D.lst (ds.map (·.1)) = d → ∃ ι M a' ds, [V.ref a] = [V.ref a'] ∧ VRep (cx X ca) ι M H (.ref a') (.dct ds) ∧ ∀ p vs, H p = none → Reps (cx X ca) ι M H vs (ds.map (·.1)) → Q (.ref p) (upd H p (.lst vs)) := fun {a ds} r e =>
        ⟨ι, M, a, ds, rfl, r, fun p vs hp rs => q p _ hp fun M' g => by rw [← e]; exact .lst upd_same (rs.go g)⟩
      cases r with
      | @tup a vs ds h r => cases e; exact .inl ⟨a, vs, rfl, .inr h.sq, fun l hl => q l _ hl fun M' g => .lst upd_same (r.go g)⟩
      | @lst a vs ds h r => cases e; exact .inl ⟨a, vs, rfl, .inl (SqL.of h), fun l hl => q l _ hl fun M' g => .lst upd_same (r.go g)⟩
      | dctK h r => exact .inr (dc (.dctK h r) (by cases e; rfl))
      | dctT h r => exact .inr (dc (.dctT h r) (by cases e; rfl))
      | dctG h r => exact .inr (dc (.dctG h r) (by cases e; rfl))
      | _ => cases e
theorem blt_dict : CallR X (.type "dict") (rCF (cx X ca) (bltD .dict)) := cr_imp (call_dictDct (ca := ca)) fun xs H Q ⟨ι, M, ds, d, k, rs, e, q⟩ => by
  cases rs with
  | nil => cases e
  | cons r rs =>
    cases rs with
    | cons r2 rs => cases r <;> cases e
    | nil =>
      have dc : ∀ {a ds}, VRep (cx X ca) ι M H (.ref a) (.dct ds) → (if (ds.all fun p => kk p.1 == 0) then some (D.dct ds) else none) = some d → ∃ ι M a' ds, [V.ref a] = [V.ref a'] ∧ VRep (cx X ca) ι M H (.ref a') (.dct ds) ∧ (ds.all fun p => kk p.1 == 0) = true ∧ ∀ p kvs, H p = none → RepKs (cx X ca) ι M H kvs ds → Q (.ref p) (upd H p (.dK kvs)) := fun {a ds} r e => by
        split at e
        · rename_i f
          cases e
          exact ⟨ι, M, a, ds, rfl, r, f, fun p kvs hp rs => q p _ hp fun M' g => .dctK upd_same (rs.go g)⟩
        · cases e
      cases r with
      | dctK h r => exact dc (.dctK h r) e
      | dctT h r => exact dc (.dctT h r) e
      | dctG h r => exact dc (.dctG h r) e
      | _ => cases e
theorem all_rep {C : RC} {ι : List Addr} {M : Addr → Prop} {H : Hp} : ∀ {ds : List D} {vs : List V} {b : Bool}, Reps C ι M H vs ds → allBl ds = some b → ∃ bs : List Bool, vs = bs.map V.bl ∧ b = bs.all id
  | _, _, _, .nil, e => by cases e; exact ⟨[], rfl, rfl⟩
  | _, _, b, .cons h r, e => by
    cases h <;> first | (cases e; done) | skip
    rename_i c
    obtain ⟨b', e1, e2⟩ := Option.map_eq_some_iff.mp (show (allBl _).map (c && ·) = some b from e)
    obtain ⟨bs, h1, h2⟩ := all_rep r e1
    exact ⟨c :: bs, by rw [h1]; rfl, by rw [← e2, h2]; rfl⟩
theorem blt_all (hc : X.calm = true) : CallR X (.builtin "all") (rC (cx X ca) (bltD .all)) := cr_imp (cr_all hc) fun xs H Q ⟨ι, M, ds, d, k, rs, e, q⟩ => by
  cases rs with
  | nil => cases e
  | cons r rs =>
    cases rs with
    | cons r2 rs => cases r <;> cases e
    | nil =>
      cases r with
      | @lst a vs ds h r =>
        obtain ⟨b, e1, rfl⟩ := Option.map_eq_some_iff.mp (show (allBl ds).map D.bl = some d from e)
        obtain ⟨bs, rfl, rfl⟩ := all_rep r e1
        exact ⟨a, bs, rfl, SqL.of h, q _ _ Same.rfl' (.bl _)⟩
      | _ => cases e
def freshBlt : Blt → Bool
  | .list => true
  | .dict => true
  | _ => false
theorem blt_int : CallR X (.type "int") (rC (cx X ca) (bltD .int)) := cr_imp call_int1 fun xs H Q ⟨ι, M, ds, d, k, rs, e, q⟩ => by
  cases rs with
  | nil => cases e
  | cons r rs =>
    cases rs with
    | cons r2 rs => cases r <;> cases e
    | nil =>
      cases r with
      | int i => cases e; exact .inl ⟨_, rfl, q _ _ Same.rfl' (.int _)⟩
      | bl b => cases e; exact .inr ⟨_, rfl, q _ _ Same.rfl' (.int _)⟩
      | _ => cases e
theorem blt_bool : CallR X (.type "bool") (rC (cx X ca) (bltD .bool)) := cr_imp call_bool1 fun xs H Q ⟨ι, M, ds, d, k, rs, e, q⟩ => by
  cases rs with
  | nil => cases e
  | cons r rs =>
    cases rs with
    | cons r2 rs => cases r <;> cases e
    | nil =>
      cases r with
      | int i => cases e; exact .inl ⟨_, rfl, q _ _ Same.rfl' (.bl _)⟩
      | bl b => cases e; exact .inr ⟨_, rfl, q _ _ Same.rfl' (.bl _)⟩
      | _ => cases e
theorem blt_abs : CallR X (.builtin "abs") (rC (cx X ca) (bltD .abs)) := cr_imp call_abs fun xs H Q ⟨ι, M, ds, d, k, rs, e, q⟩ => by
  cases rs with
  | nil => cases e
  | cons r rs =>
    cases rs with
    | cons r2 rs => cases r <;> cases e
    | nil =>
      cases r with
      | int i => cases e; exact ⟨_, rfl, q _ _ Same.rfl' (.int _)⟩
      | _ => cases e
theorem blt_str : CallR X (.type "str") (rC (cx X ca) (bltD .str)) := cr_imp (CallR.or SkE.call_str_str call_str_int) fun xs H Q ⟨ι, M, ds, d, k, rs, e, q⟩ => by
  cases rs with
  | nil => cases e
  | cons r rs =>
    cases rs with
    | cons r2 rs => cases r <;> cases e
    | nil =>
      cases r with
      | str x => cases e; exact .inl ⟨_, rfl, q _ _ Same.rfl' (.str _)⟩
      | int i =>
        have e' : (if i.natAbs < 2 ^ 64 then some (D.str (toString i)) else none) = some d := e
        split at e'
        · rename_i hc
          cases e'
          refine .inr ⟨_, rfl, ?_, q _ _ Same.rfl' (.str _)⟩
          by_cases z : i.natAbs = 0
          · rw [z]; decide
          · exact Nat.lt_trans ((Nat.log2_lt z).mpr hc) (by decide)
        · cases e'
      | _ => cases e
theorem blt_tuple : CallR X (.type "tuple") (rC (cx X ca) (bltD .tuple)) := cr_imp (CallR.or call_tupleN call_tuple_of) fun xs H Q ⟨ι, M, ds, d, k, rs, e, q⟩ => by
  cases rs with
  | nil => cases e
  | cons r rs =>
    cases rs with
    | cons r2 rs => cases r <;> cases e
    | nil =>
      cases r with
      | @tup a vs ds h r => cases e; exact .inr ⟨a, vs, rfl, .inr ⟨h.sq, q _ _ Same.rfl' (.tup h r)⟩⟩
      | @lst a vs ds h r => cases e; exact .inl ⟨a, vs, rfl, SqL.of h, fun l o hl ho => q _ _ (same_laid hl) (.tupNew k hl ho r)⟩
      | _ => cases e
theorem blt_max (hc : X.calm = true) : CallR X (.builtin "max") (rC (cx X ca) (bltD .max)) := cr_imp (call_max2 hc) fun xs H Q ⟨ι, M, ds, d, k, rs, e, q⟩ => by
  cases rs with
  | nil => cases e
  | cons r rs =>
    cases rs with
    | nil => cases r <;> cases e
    | cons r2 rs =>
      cases rs with
      | cons r3 rs => cases r <;> cases r2 <;> cases e
      | nil =>
        cases r with
        | int i => cases r2 with
          | int j => cases e; exact ⟨_, _, rfl, q _ _ Same.rfl' (.int _)⟩
          | _ => cases e
        | _ => cases r2 <;> cases e
theorem blt_min (hc : X.calm = true) : CallR X (.builtin "min") (rC (cx X ca) (bltD .min)) := cr_imp (call_min2 hc) fun xs H Q ⟨ι, M, ds, d, k, rs, e, q⟩ => by
  cases rs with
  | nil => cases e
  | cons r rs =>
    cases rs with
    | nil => cases r <;> cases e
    | cons r2 rs =>
      cases rs with
      | cons r3 rs => cases r <;> cases r2 <;> cases e
      | nil =>
        cases r with
        | int i => cases r2 with
          | int j => cases e; exact ⟨_, _, rfl, q _ _ Same.rfl' (.int _)⟩
          | _ => cases e
        | _ => cases r2 <;> cases e
theorem blt_ok (hc : X.calm = true) : ∀ b, freshBlt b = false → CallR X (bltV b) (rC (cx X ca) (bltD b))
  | .len, _ => blt_len
  | .int, _ => blt_int
  | .tuple, _ => blt_tuple
  | .abs, _ => blt_abs
  | .max, _ => blt_max hc
  | .min, _ => blt_min hc
  | .str, _ => blt_str
  | .bool, _ => blt_bool
  | .all, _ => blt_all hc
theorem bltF_ok (hc : X.calm = true) : ∀ b, freshBlt b = true → CallR X (bltV b) (rCF (cx X ca) (bltD b))
  | .list, _ => blt_list hc
  | .dict, _ => blt_dict
end

/-! ### isinstance -/
def tyVal (ca : Nat → Addr) : Ty → Value
  | .int => .type "int" | .str => .type "str" | .bool => .type "bool" | .list => .type "list" | .tuple => .type "tuple" | .cls c => .ref (ca c)
def tyV (ca : Nat → Addr) : Ty → V
  | .int => .ty "int" | .str => .ty "str" | .bool => .ty "bool" | .list => .ty "list" | .tuple => .ty "tuple" | .cls c => .ref (ca c)
/-- the classes, as instances have them -/
structure ClsF (K : PySem.W.Frag) (C : Addr) : Prop where
  nsq : PySem.W.noSeq K C = true
  cl : Cls K C
  ha : PySem.W.findIn K (.ref C) "__class__" = some (some (.builtin "object.__class__"))
  hn : PySem.W.specialIn K (.builtin "object.__class__") "__get__" = some (some (.builtin "getset_descriptor.__get__"))
  htk : PySem.W.takesIn K (.builtin "object.__class__") = some true
  hm : PySem.W.mroIn K C (.type "object") = some true
/-- isinstance's answers, by the types -/
def bIs : String → Ty → Bool
  | "int", .int => true
  | "bool", .int => true
  | "bool", .bool => true
  | "str", .str => true
  | "list", .list => true
  | "tuple", .tuple => true
  | _, _ => false
structure TyF (tb : Tb) (K : PySem.W.Frag) (ca : Nat → Addr) : Prop where
  b : ∀ (n : String) (t : Ty), n ∈ ["NoneType", "bool", "int", "str", "list", "tuple"] → PySem.W.kitOne K (.type n) (tyVal ca t) = some (bIs n t)
  c : ∀ (c : Nat) (t : Ty), PySem.W.kitOne K (.ref (ca c)) (tyVal ca t) = some (match t with | .cls t => tb.sub c t | _ => false)
theorem tyX_of {tb : Tb} {C : RC} {ι : List Addr} {M : Addr → Prop} {H : Hp} {v : V} {d : D} {t : Ty} {b : Bool} (fc : ∀ c, ClsF C.K (C.ca c)) (ft : TyF tb C.K C.ca) (r : VRep C ι M H v d) (e : isD tb d t = some b) :
    ∃ tv, TyX C.K H v tv ∧ PySem.W.kitOne C.K tv (tyVal C.ca t) = some b := by
  cases r with
  | non => exact ⟨_, .base .non, by rw [ft.b _ t (by decide)]; cases t <;> cases e <;> rfl⟩
  | bl y => exact ⟨_, .base (.bl y), by rw [ft.b _ t (by decide)]; cases t <;> cases e <;> rfl⟩
  | int i => exact ⟨_, .base (.int i), by rw [ft.b _ t (by decide)]; cases t <;> cases e <;> rfl⟩
  | str x => exact ⟨_, .base (.str x), by rw [ft.b _ t (by decide)]; cases t <;> cases e <;> rfl⟩
  | @tup a vs ds h r =>
    refine ⟨.type "tuple", ?_, by rw [ft.b _ t (by decide)]; cases t <;> cases e <;> rfl⟩
    rcases h with ⟨_, o, h, _⟩ | ⟨o, its, n, h1, _, h2, h3, h4, h5⟩
    · exact .fTuple h
    · exact .kTuple h1 h2
  | lst h r => exact ⟨.type "list", .base (.lst h), by rw [ft.b _ t (by decide)]; cases t <;> cases e <;> rfl⟩
  | scr h r => cases t <;> cases e
  | dctK h r => cases t <;> cases e
  | dctT h r => cases t <;> cases e
  | dctG h r => cases t <;> cases e
  | @ins a c dx vfs fs h r =>
    have f := fc c
    refine ⟨_, .base (.ins h f.cl f.ha f.hn f.htk f.hm), ?_⟩
    rw [ft.c c t]
    cases t <;> cases e <;> rfl
theorem tyV_cls (ca : Nat → Addr) (t : Ty) : ClsV (tyV ca t) (tyVal ca t) := by cases t <;> constructor
theorem tyV_rel (ca : Nat → Addr) (t : Ty) : RelV (tyV ca t) (tyVal ca t) := by cases t <;> rfl
end MP

set_option maxRecDepth 100000
set_option maxHeartbeats 1000000
/-! MP10: calls: what passes between a caller's scene and a callee's. -/
namespace MP
open PySem PySem.Spec PyProof.Rows L2

/-- the shared part of a scene -/
structure Scn (C : RC) (ι : List Addr) (M : Addr → Prop) (h : MH) (H : Hp) : Prop where
  known : Known M H
  sub : ∀ a, a ∈ ι → M a
  hl : ι.length = h.length
  hd : ι.Nodup
  hp : ∀ (n : Nat) (d : D), h[n]? = some d → ∃ a, ι[n]? = some a ∧ ContAt C ι M H a d
/-- behind a call -/
structure Aft (C : RC) (ι : List Addr) (M : Addr → Prop) (H : Hp) (ι' : List Addr) (h' : MH) (H' : Hp) : Prop where
  scn : Scn C ι' (fun a => M a ∨ a ∈ ι') h' H'
  go : Go ι M H ι' (fun a => M a ∨ a ∈ ι') H'
  kept : ∀ b o, H b = some o → b ∉ ι → H' b = some o
/-- a result that nothing else knows -/
def NewAt (C : RC) (ι' : List Addr) (M : Addr → Prop) (H : Hp) (h' : MH) (H' : Hp) (v : V) (d : D) : Prop := ∃ p, v = .ref p ∧ H p = none ∧ p ∉ ι' ∧
  (∀ (n : Nat) (d : D), h'[n]? = some d → ∃ a, ι'[n]? = some a ∧ ContAt C ι' (fun a => (M a ∨ a ∈ ι') ∨ a = p) H' a d) ∧ ContAt C ι' (fun a => (M a ∨ a ∈ ι') ∨ a = p) H' p d
/-- what a def promises: run is what it computes -/
def spF (C : RC) (np : Nat) (fr : Bool) (run : List D → MH → R D) : Sp := fun vs H Q _ => vs.length = np ∧ ∃ ι M ds h d h', Scn C ι M h H ∧ Reps C ι M H vs ds ∧ run ds h = .ok d h' ∧
  ∀ ι' H' v, Aft C ι M H ι' h' H' → (fr = false → Rep C ι' (fun a => M a ∨ a ∈ ι') H' v d) → (fr = true → NewAt C ι' M H h' H' v d) → Q v H'
theorem Go.plus {ι ι' : List Addr} {M M' : Addr → Prop} {H H' : Hp} {p : Addr} (g : Go ι M H ι' M' H') (hp : H p = none) : Go ι M H ι' (fun a => M' a ∨ a = p) H' :=
  ⟨g.pre, g.kept, fun a o e m => m.elim (g.new a o e) fun z => (by subst z; rw [hp] at e; cases e), g.nw, g.live⟩

section
variable {S : SC} {ι ι' : List Addr} {e : Ev} {h h' : MH} {σ : L2.St} {H H' : Hp}
theorem Rel.known (R : Rel S ι e h σ H) : Known (Mu S.M0 ι e σ) H := fun _ m => R.there m
theorem Rel.scn (R : Rel S ι e h σ H) : Scn S.C ι (Mu S.M0 ι e σ) h H := ⟨R.known, fun a m => .inr (.inl m), R.hl, R.hd, R.hp⟩
theorem mem_pre {ι ι' : List Addr} (p : ∀ (n : Nat) (a : Addr), ι[n]? = some a → ι'[n]? = some a) {a : Addr} (m : a ∈ ι) : a ∈ ι' := by
  obtain ⟨n, hn, rfl⟩ := List.mem_iff_getElem.mp m
  exact List.mem_of_getElem? (p n _ (List.getElem?_eq_getElem hn))
/-- the caller's scene goes on -/
theorem Aft.mu (A : Aft S.C ι (Mu S.M0 ι e σ) H ι' h' H') : Go ι (Mu S.M0 ι e σ) H ι' (Mu S.M0 ι' e σ) H' :=
  A.go.swap fun a m => by
    rcases m with m | m | m
    · exact .inl (.inl m)
    · exact .inr m
    · exact .inl (.inr (.inr m))
theorem Aft.less (A : Aft S.C ι (Mu S.M0 ι e σ) H ι' h' H') : Go ι' (fun a => Mu S.M0 ι e σ a ∨ a ∈ ι') H' ι' (Mu S.M0 ι' e σ) H' := .less fun a m => by
  rcases m with m | m | m
  · exact .inl (.inl m)
  · exact .inr m
  · exact .inl (.inr (.inr m))
theorem Aft.rel (R : Rel S ι e h σ H) (A : Aft S.C ι (Mu S.M0 ι e σ) H ι' h' H') : Rel S ι' e h' σ H' where
  len := R.len
  val := fun i d q => let ⟨v, h1, h2⟩ := R.val i d q; ⟨v, h1, h2.go A.mu⟩
  own := fun i d q => by
    obtain ⟨a, h1, h2, h3, h4⟩ := R.own i d q
    obtain ⟨o, ho⟩ := h4.some
    refine ⟨a, h1, h2, fun m => ?_, h4.go A.mu fun o ho => A.kept a o ho h3⟩
    rcases A.go.nw a m with z | z
    · exact h3 z
    · rw [ho] at z; cases z
  dist := R.dist
  hl := A.scn.hl
  hd := A.scn.hd
  hp := fun n d q => let ⟨a, h1, h2⟩ := A.scn.hp n d q; ⟨a, h1, h2.go A.less fun _ z => z⟩
  kept := fun b o h1 h2 => A.kept b o (R.kept b o h1 h2) fun m => by
    rcases R.fresh b m with z | z
    · exact h2 z
    · rw [h1] at z; cases z
  fresh := fun b m => by
    rcases A.go.nw b m with z | z
    · exact R.fresh b z
    · by_cases hb : b ∈ S.i0
      · exact .inl hb
      · refine .inr ?_
        cases q : S.H0 b with
        | none => rfl
        | some o => rw [R.kept b o q hb] at z; cases z
  pre := fun n a q => A.go.pre n a (R.pre n a q)
  mz := fun a m => A.scn.known a (.inl (.inl m))

/-- a callee's first scene -/
theorem startE_get {ns : Nat} {ds : List D} {i : Nat} {s : Slot} (q : (startE ns ds)[i]? = some s) : (∃ d, ds[i]? = some d ∧ s = .val d) ∨ s = .no := by
  unfold startE at q
  by_cases hi : i < ds.length
  · rw [List.getElem?_append_left (by simpa using hi), List.getElem?_map] at q
    cases e : ds[i]? with
    | none => rw [e] at q; cases q
    | some d => rw [e] at q; cases q; exact .inl ⟨d, rfl, rfl⟩
  · rw [List.getElem?_append_right (by simpa using Nat.le_of_not_lt hi)] at q
    rw [List.getElem?_replicate] at q
    split at q
    · cases q; exact .inr rfl
    · cases q
theorem start_get {N : List Str} {vs : List V} {i : Nat} {v : V} (q : vs[i]? = some v) : (L2.start N vs)[i]? = some (some v) := by
  have hi : i < vs.length := by
    by_cases z : i < vs.length
    · exact z
    · rw [List.getElem?_eq_none (by omega)] at q; cases q
  unfold L2.start
  rw [List.getElem?_append_left (by simpa using hi), List.getElem?_map, q]
  rfl
theorem Scn.rel {C : RC} {M : Addr → Prop} {N : List Str} {vs : List V} {ds : List D} (A : Scn C ι M h H) (r : Reps C ι M H vs ds) (hz : vs.length ≤ N.length) :
    Rel ⟨C, H, M, ι⟩ ι (startE N.length ds) h (L2.start N vs) H := by
  have hl := r.length
  have mu : ∀ a, Mu M ι (startE N.length ds) (L2.start N vs) a → M a := fun a m => by
    rcases m with m | m | ⟨i, ⟨d, q⟩, _⟩
    · exact m
    · exact A.sub a m
    · rcases startE_get q with ⟨_, _, z⟩ | z <;> cases z
  refine ⟨?_, fun i d q => ?_, fun i d q => ?_, fun i j a p _ => ?_, A.hl, A.hd, fun n d q => ?_, fun b o q _ => q, fun b m => .inl m, fun n a q => q, fun a m => A.known a m⟩
  · unfold startE L2.start
    simp only [List.length_append, List.length_map, List.length_replicate]
    omega
  · rcases startE_get q with ⟨d', h1, z⟩ | z
    · cases z
      obtain ⟨v, h2, h3⟩ := r.get h1
      exact ⟨v, start_get h2, h3.go (.less mu)⟩
    · cases z
  · rcases startE_get q with ⟨_, _, z⟩ | z <;> cases z
  · obtain ⟨⟨d, q⟩, _⟩ := p
    rcases startE_get q with ⟨_, _, z⟩ | z <;> cases z
  · obtain ⟨a, h1, h2⟩ := A.hp n d q
    exact ⟨a, h1, h2.go (.less mu) fun _ z => z⟩
/-- a callee's end -/
theorem Rel.aft (R : Rel S ι e h σ H) (G : Go S.i0 S.M0 S.H0 ι (Mu S.M0 ι e σ) H) (sub : ∀ a, a ∈ S.i0 → S.M0 a) : Aft S.C S.i0 S.M0 S.H0 ι h H := by
  have mu : ∀ a, (S.M0 a ∨ a ∈ ι) → Mu S.M0 ι e σ a := fun a m => m.elim .inl fun z => .inr (.inl z)
  refine ⟨⟨fun a m => R.there (mu a m), fun a m => .inr m, R.hl, R.hd, fun n d q => ?_⟩, G.swap mu, R.kept⟩
  obtain ⟨a, h1, h2⟩ := R.hp n d q
  exact ⟨a, h1, h2.go (.less mu) fun _ z => z⟩
end
end MP

set_option maxRecDepth 100000
set_option maxHeartbeats 1000000
/-! MP10b: new lists and dicts that nothing else knows; locks. -/
namespace MP
open PySem PySem.Spec PyProof.Rows L2

def SD (S : SC) (D : Addr) (o : HO) : SC := { S with H0 := upd S.H0 D o, M0 := fun a => S.M0 a ∨ a = D }
section
variable {S : SC} {ι ι1 ι' : List Addr} {e : Ev} {h h' h1 : MH} {σ : L2.St} {H H1 H' : Hp} {D : Addr} {o o' : HO}
theorem SD.mu {a : Addr} : Mu (SD S D o).M0 ι e σ a ↔ Mu S.M0 ι e σ a ∨ a = D := by
  unfold Mu SD
  constructor
  · rintro ((m | m) | m | m)
    · exact .inl (.inl m)
    · exact .inr m
    · exact .inl (.inr (.inl m))
    · exact .inl (.inr (.inr m))
  · rintro ((m | m | m) | m)
    · exact .inl (.inl m)
    · exact .inr (.inl m)
    · exact .inr (.inr m)
    · exact .inl (.inr m)
theorem SD.go0 (hD : H D = none) : Go ι (Mu S.M0 ι e σ) H ι (Mu (SD S D o).M0 ι e σ) (upd H D o) :=
  ⟨fun _ _ q => q, fun a u q _ => same_laid hD a u q, fun a u q m => (SD.mu.mp m).elim (fun z => z) fun z => (by subst z; rw [hD] at q; cases q), fun _ z => .inl z, fun a u q => ⟨u, same_laid hD a u q⟩⟩
theorem Rel.notin (rl : Rel S ι e h σ H) (hD : H D = none) : D ∉ ι := fun z => by
  obtain ⟨o, q⟩ := rl.there (.inr (.inl z)); rw [hD] at q; cases q
theorem Rel.noti0 (rl : Rel S ι e h σ H) (hD : H D = none) : D ∉ S.i0 := fun z => rl.notin hD (mem_pre rl.pre z)
theorem SD.start (rl : Rel S ι e h σ H) (hD : H D = none) : Rel (SD S D o) ι e h σ (upd H D o) := by
  have g0 := SD.go0 (S := S) (e := e) (σ := σ) (ι := ι) (o := o) hD
  have ne : ∀ {a : Addr} {u : HO}, H a = some u → a ≠ D := fun q z => by subst z; rw [hD] at q; cases q
  refine ⟨rl.len, fun i d q => ?_, fun i d q => ?_, rl.dist, rl.hl, rl.hd, fun n d q => ?_, fun b u q z => ?_, fun b z => ?_, rl.pre, fun a m => ?_⟩
  · obtain ⟨v, q1, q2⟩ := rl.val i d q
    exact ⟨v, q1, q2.go g0⟩
  · obtain ⟨a, q1, q2, q3, q4⟩ := rl.own i d q
    obtain ⟨u, hu⟩ := q4.some
    refine ⟨a, q1, ?_, q3, q4.go g0 fun u q => same_laid hD a u q⟩
    show upd S.H0 D o a = none
    rw [upd_ne (ne hu)]; exact q2
  · obtain ⟨a, q1, q2⟩ := rl.hp n d q
    exact ⟨a, q1, q2.go g0 fun u q => same_laid hD a u q⟩
  · have q' : upd S.H0 D o b = some u := q
    by_cases hb : b = D
    · subst hb; rw [upd_same] at q' ⊢; exact q'
    · rw [upd_ne hb] at q' ⊢; exact rl.kept b u q' z
  · rcases rl.fresh b z with w | w
    · exact .inl w
    · refine .inr ?_
      show upd S.H0 D o b = none
      rw [upd_ne (fun y => rl.notin hD (by rw [← y]; exact z))]; exact w
  · rcases m with m | m
    · obtain ⟨u, q⟩ := rl.mz a m; exact ⟨u, same_laid hD a u q⟩
    · subst m; exact ⟨_, upd_same⟩
theorem SD.write (rl : Rel (SD S D o) ι e h σ H) (hi : D ∉ ι) : Rel (SD S D o') ι e h σ (upd H D o') := by
  have hm : Mu (SD S D o).M0 ι e σ D := .inl (.inr rfl)
  have g : Go ι (Mu (SD S D o).M0 ι e σ) H ι (Mu (SD S D o').M0 ι e σ) (upd H D o') := Go.write hm
  refine ⟨rl.len, fun i d q => ?_, fun i d q => ?_, rl.dist, rl.hl, rl.hd, fun n d q => ?_, fun b u q z => ?_, fun b z => ?_, rl.pre, fun a m => ?_⟩
  · obtain ⟨v, q1, q2⟩ := rl.val i d q
    exact ⟨v, q1, q2.go g⟩
  · obtain ⟨a, q1, q2, q3, q4⟩ := rl.own i d q
    have ha : a ≠ D := fun z => by
      subst z
      have q2' : upd S.H0 a o a = none := q2
      rw [upd_same] at q2'; cases q2'
    refine ⟨a, q1, ?_, q3, q4.go g fun u q => by rw [upd_ne ha]; exact q⟩
    have q2' : upd S.H0 D o a = none := q2
    show upd S.H0 D o' a = none
    rw [upd_ne ha] at q2' ⊢; exact q2'
  · obtain ⟨a, q1, q2⟩ := rl.hp n d q
    have ha : a ≠ D := fun z => hi (z ▸ List.mem_of_getElem? q1)
    exact ⟨a, q1, q2.go g fun u q => by rw [upd_ne ha]; exact q⟩
  · have q' : upd S.H0 D o' b = some u := q
    by_cases hb : b = D
    · subst hb; rw [upd_same] at q' ⊢; exact q'
    · rw [upd_ne hb] at q' ⊢
      exact rl.kept b u (by show upd S.H0 D o b = some u; rw [upd_ne hb]; exact q') z
  · rcases rl.fresh b z with w | w
    · exact .inl w
    · refine .inr ?_
      have hb : b ≠ D := fun y => hi (y ▸ z)
      have w' : upd S.H0 D o b = none := w
      show upd S.H0 D o' b = none
      rw [upd_ne hb] at w' ⊢; exact w'
  · obtain ⟨u, q⟩ := rl.mz a m
    by_cases ha : a = D
    · subst ha; exact ⟨_, upd_same⟩
    · exact ⟨u, by rw [upd_ne ha]; exact q⟩
theorem SD.done (rl1 : Rel S ι1 e h1 σ H1) (hD : H1 D = none) (rl : Rel (SD S D o) ι' e h' σ H') : Rel S ι' e h' σ H' := by
  have nD : S.H0 D = none := by
    cases q : S.H0 D with
    | none => rfl
    | some u => have := rl1.kept D u q (rl1.noti0 hD); rw [hD] at this; cases this
  have g : Go ι' (Mu (SD S D o).M0 ι' e σ) H' ι' (Mu S.M0 ι' e σ) H' := .less fun a m => SD.mu.mpr (.inl m)
  refine ⟨rl.len, fun i d q => ?_, fun i d q => ?_, rl.dist, rl.hl, rl.hd, fun n d q => ?_, fun b u q z => ?_, fun b z => ?_, rl.pre, fun a m => rl.mz a (.inl m)⟩
  · obtain ⟨v, q1, q2⟩ := rl.val i d q
    exact ⟨v, q1, q2.go g⟩
  · obtain ⟨a, q1, q2, q3, q4⟩ := rl.own i d q
    have q2' : upd S.H0 D o a = none := q2
    have ha : a ≠ D := fun z => by
      subst z
      rw [upd_same] at q2'; cases q2'
    rw [upd_ne ha] at q2'
    exact ⟨a, q1, q2', q3, q4.go g fun _ z => z⟩
  · obtain ⟨a, q1, q2⟩ := rl.hp n d q
    exact ⟨a, q1, q2.go g fun _ z => z⟩
  · have hb : b ≠ D := fun y => by subst y; rw [nD] at q; cases q
    exact rl.kept b u (by show upd S.H0 D o b = some u; rw [upd_ne hb]; exact q) z
  · rcases rl.fresh b z with w | w
    · exact .inl w
    · by_cases hb : b = D
      · subst hb; exact .inr nD
      · have w' : upd S.H0 D o b = none := w
        rw [upd_ne hb] at w'
        exact .inr w'
end

theorem Go.back {ι ι' : List Addr} {M M' : Addr → Prop} {H H' : Hp} {p : Addr} (g : Go ι M H ι' M' H') (hp : H' p = none) : H p = none := by
  cases q : H p with
  | none => rfl
  | some o => obtain ⟨o', q'⟩ := g.live p o q; rw [hp] at q'; cases q'
/-! ### a new object that nothing else knows -/
def SP1 (S : SC) (p : Addr) : SC := { S with M0 := fun a => S.M0 a ∨ a = p }
section
variable {S : SC} {ι ι1 ι' : List Addr} {e : Ev} {h h' h1 : MH} {σ : L2.St} {H H1 H' : Hp} {D p : Addr} {o o' : HO} {d : MP.D}
theorem SP1.mu {a : Addr} : Mu (SP1 S p).M0 ι e σ a ↔ Mu S.M0 ι e σ a ∨ a = p := SD.mu (o := .lst [])
theorem SP1.less : Go ι (Mu (SP1 S p).M0 ι e σ) H ι (Mu S.M0 ι e σ) H := .less fun a m => SP1.mu.mpr (.inl m)
theorem Rel.drop (rl : Rel (SP1 S p) ι e h σ H) : Rel S ι e h σ H := by
  have g : Go ι (Mu (SP1 S p).M0 ι e σ) H ι (Mu S.M0 ι e σ) H := SP1.less
  refine ⟨rl.len, fun i d q => ?_, fun i d q => ?_, rl.dist, rl.hl, rl.hd, fun n d q => ?_, rl.kept, rl.fresh, rl.pre, fun a m => rl.mz a (.inl m)⟩
  · obtain ⟨v, q1, q2⟩ := rl.val i d q
    exact ⟨v, q1, q2.go g⟩
  · obtain ⟨a, q1, q2, q3, q4⟩ := rl.own i d q
    exact ⟨a, q1, q2, q3, q4.go g fun _ z => z⟩
  · obtain ⟨a, q1, q2⟩ := rl.hp n d q
    exact ⟨a, q1, q2.go g fun _ z => z⟩
theorem Rel.noOwnP (rl : Rel S ι e h σ H) (hp : H p = none) (i : Nat) : ¬ OwnAt e σ i p := fun ⟨⟨d, q1⟩, q2⟩ => by
  obtain ⟨a, q3, _, _, q4⟩ := rl.own i d q1
  rw [q2] at q3; cases q3
  obtain ⟨u, q⟩ := q4.some
  rw [hp] at q; cases q
theorem Rel.h0P (rl : Rel S ι e h σ H) (hp : H p = none) : S.H0 p = none := by
  cases q : S.H0 p with
  | none => rfl
  | some u => have := rl.kept p u q (rl.noti0 hp); rw [hp] at this; cases this
/-- what is new is not among what may change -/
theorem Rel.notMu (rl0 : Rel S ι1 e h1 σ H1) (hp : H1 p = none) (ni : p ∉ ι) : ¬ Mu S.M0 ι e σ p := fun m => by
  rcases m with m | m | ⟨k, m⟩
  · obtain ⟨u, q⟩ := rl0.mz p m; rw [hp] at q; cases q
  · exact ni m
  · exact rl0.noOwnP hp k m
theorem Rel.plusNew (rl : Rel S ι e h σ H) (hp : H p = none) : Rel (SP1 S p) ι e h σ (upd H p o) := by
  have g : Go ι (Mu S.M0 ι e σ) H ι (Mu (SP1 S p).M0 ι e σ) (upd H p o) := SD.go0 (o := o) hp
  refine ⟨rl.len, fun i d q => ?_, fun i d q => ?_, rl.dist, rl.hl, rl.hd, fun n d q => ?_, fun b u q z => same_laid hp b u (rl.kept b u q z), rl.fresh, rl.pre, fun a m => ?_⟩
  · obtain ⟨v, q1, q2⟩ := rl.val i d q
    exact ⟨v, q1, q2.go g⟩
  · obtain ⟨a, q1, q2, q3, q4⟩ := rl.own i d q
    exact ⟨a, q1, q2, q3, q4.go g fun u q => same_laid hp a u q⟩
  · obtain ⟨a, q1, q2⟩ := rl.hp n d q
    exact ⟨a, q1, q2.go g fun u q => same_laid hp a u q⟩
  · rcases m with m | m
    · obtain ⟨u, q⟩ := rl.mz a m; exact ⟨u, same_laid hp a u q⟩
    · subst m; exact ⟨_, upd_same⟩
theorem goNew (hp : H p = none) : Go ι (Mu S.M0 ι e σ) H ι (Mu (SP1 S p).M0 ι e σ) (upd H p o) := SD.go0 (o := o) hp
/-- .. it is written -/
theorem Rel.writeP (rl0 : Rel S ι1 e h1 σ H1) (hp : H1 p = none) (rl : Rel (SP1 S p) ι e h σ H) (ni : p ∉ ι) : Rel (SP1 S p) ι e h σ (upd H p o) := by
  have g : Go ι (Mu (SP1 S p).M0 ι e σ) H ι (Mu (SP1 S p).M0 ι e σ) (upd H p o) := Go.write (SP1.mu.mpr (.inr rfl))
  refine ⟨rl.len, fun i d q => ?_, fun i d q => ?_, rl.dist, rl.hl, rl.hd, fun n d q => ?_, fun b u q z => ?_, rl.fresh, rl.pre, fun a m => ?_⟩
  · obtain ⟨v, q1, q2⟩ := rl.val i d q
    exact ⟨v, q1, q2.go g⟩
  · obtain ⟨a, q1, q2, q3, q4⟩ := rl.own i d q
    have ha : a ≠ p := fun z => rl0.noOwnP hp i ⟨⟨d, q⟩, by rw [← z]; exact q1⟩
    exact ⟨a, q1, q2, q3, q4.go g fun u q => by rw [upd_ne ha]; exact q⟩
  · obtain ⟨a, q1, q2⟩ := rl.hp n d q
    have ha : a ≠ p := fun z => ni (z ▸ List.mem_of_getElem? q1)
    exact ⟨a, q1, q2.go g fun u q => by rw [upd_ne ha]; exact q⟩
  · have hb : b ≠ p := fun z => by
      subst z
      have q' : S.H0 b = some u := q
      rw [rl0.h0P hp] at q'; cases q'
    rw [upd_ne hb]; exact rl.kept b u q z
  · obtain ⟨u, q⟩ := rl.mz a m
    by_cases ha : a = p
    · subst ha; exact ⟨_, upd_same⟩
    · exact ⟨u, by rw [upd_ne ha]; exact q⟩
/-- from a scene in which it was in the making -/
theorem SD.toP (rl1 : Rel S ι1 e h1 σ H1) (hD : H1 D = none) (rl : Rel (SD S D o) ι' e h' σ H') : Rel (SP1 S D) ι' e h' σ H' := by
  have r := SD.done rl1 hD rl
  refine ⟨rl.len, rl.val, fun i d q => ?_, rl.dist, rl.hl, rl.hd, rl.hp, r.kept, r.fresh, r.pre, rl.mz⟩
  obtain ⟨a, q1, q2, q3, _⟩ := r.own i d q
  obtain ⟨a', p1, _, _, p4⟩ := rl.own i d q
  rw [q1] at p1
  cases p1
  exact ⟨a, q1, q2, q3, p4⟩
def OutF (S : SC) (e : Ev) (σ : L2.St) (r : R MP.D) (ι : List Addr) (H : Hp) (Q : VK) : Prop :=
  ∃ d h', r = .ok d h' ∧ ∀ ι' H' p, H p = none → p ∉ ι' → Go ι (Mu S.M0 ι e σ) H ι' (Mu (SP1 S p).M0 ι' e σ) H' → Rel (SP1 S p) ι' e h' σ H' → ContAt S.C ι' (Mu (SP1 S p).M0 ι' e σ) H' p d → Q (.ref p) H'
def tF (tb : Tb) (Φ : Nat → List MP.D → MH → R MP.D) (S : SC) (m : M) : TE := fun σ H Q => ∃ ι e h, Rel S ι e h σ H ∧ OutF S e σ (ev tb Φ m e h) ι H Q
end

/-- a call's new result -/
theorem Aft.newP {S : SC} {ι ι' : List Addr} {e : Ev} {h h' : MH} {σ : L2.St} {H H' : Hp} {v : V} {d : MP.D} (rl : Rel S ι e h σ H) (A : Aft S.C ι (Mu S.M0 ι e σ) H ι' h' H') (nw : NewAt S.C ι' (Mu S.M0 ι e σ) H h' H' v d) :
    ∃ p, v = .ref p ∧ H p = none ∧ p ∉ ι' ∧ Go ι (Mu S.M0 ι e σ) H ι' (Mu (SP1 S p).M0 ι' e σ) H' ∧ Rel (SP1 S p) ι' e h' σ H' ∧ ContAt S.C ι' (Mu (SP1 S p).M0 ι' e σ) H' p d := by
  obtain ⟨p, rfl, hp, ni, nh, c⟩ := nw
  have sub : ∀ a, Mu (SP1 S p).M0 ι' e σ a → ((Mu S.M0 ι e σ a ∨ a ∈ ι') ∨ a = p) := fun a m => by
    rcases SP1.mu.mp m with m | m
    · rcases m with m | m | m
      · exact .inl (.inl (.inl m))
      · exact .inl (.inr m)
      · exact .inl (.inl (.inr (.inr m)))
    · exact .inr m
  have g : Go ι (Mu S.M0 ι e σ) H ι' (Mu (SP1 S p).M0 ι' e σ) H' := (A.go.plus hp).swap sub
  have gl : Go ι' (fun a => (Mu S.M0 ι e σ a ∨ a ∈ ι') ∨ a = p) H' ι' (Mu (SP1 S p).M0 ι' e σ) H' := .less sub
  have r := A.rel rl
  refine ⟨p, rfl, hp, ni, g, ⟨r.len, fun i d q => ?_, fun i d q => ?_, r.dist, r.hl, r.hd, fun n d q => ?_, r.kept, r.fresh, r.pre, fun a m => ?_⟩, c.go gl fun _ z => z⟩
  · obtain ⟨v, q1, q2⟩ := rl.val i d q
    exact ⟨v, q1, q2.go g⟩
  · obtain ⟨a, q1, q2, q3, q4⟩ := rl.own i d q
    obtain ⟨a', p1, _, p3, _⟩ := r.own i d q
    rw [q1] at p1
    cases p1
    exact ⟨a, q1, q2, p3, q4.go g fun o ho => A.kept a o ho q3⟩
  · obtain ⟨a, q1, q2⟩ := nh n d q
    exact ⟨a, q1, q2.go gl fun _ z => z⟩
  · rcases m with m | m
    · exact r.mz a m
    · subst m; exact c.some

/-! ### locks -/
inductive LockQ (R : Hp → Prop) : Hp → Prop
  | done {H : Hp} : R H → LockQ R H
  | lock {H : Hp} {a : Addr} {u : HO} : H a = some u → Mut (some u) → (∀ o, LockQ R (upd H a (.frz o u))) → LockQ R H
theorem LockQ.run {X : Cx} {pins : List (Addr × Obj)} {σ : L2.St} {s : Shared} {R : Hp → Prop} : ∀ {H : Hp}, LockQ R H → Inv X pins σ H s → ∃ H', Inv X pins σ H' s ∧ R H' := by
  intro H h
  induction h with
  | done r => exact fun I => ⟨_, I, r⟩
  | lock e mu _ ih =>
    intro I
    obtain ⟨o, I'⟩ := I.lock e mu
    exact ih o I'
theorem LockQ.imp {R R' : Hp → Prop} {H : Hp} (h : LockQ R H) (i : ∀ H, R H → R' H) : LockQ R' H := by
  induction h with
  | done r => exact .done (i _ r)
  | lock e mu _ ih => exact .lock e mu ih
theorem PE.imp {X : Cx} {e : Expr} {t t' : TE} (h : PE X e t) (i : ∀ σ H Q, t' σ H Q → t σ H Q) : PE X e t' := ⟨fun pins s σ H Q I q => h.run pins s σ H Q I (i σ H Q q)⟩
theorem PE.lock {X : Cx} {e : Expr} {t : TE} (h : PE X e t) : PE X e (fun σ H Q => t σ H fun v H1 => LockQ (Q v) H1) := ⟨fun pins s σ H Q I q =>
  thn (h.run pins s σ H _ I q) fun u s1 ⟨v, H1, I1, r, l⟩ => by
    obtain ⟨H2, I2, q2⟩ := l.run I1
    exact ⟨v, H2, I2, r, q2⟩⟩
theorem PSs.lock {X : Cx} {st : List Stmt} {t : TS} (h : PSs X st t) : PSs X st (fun D σ H => LockQ (fun H1 => t D σ H1) H) := ⟨fun pins s σ H D I l => by
  obtain ⟨H2, I2, q2⟩ := l.run I
  exact h.run pins s σ H2 D I2 q2⟩
section
variable {S : SC} {ι ι1 ι' : List Addr} {e : Ev} {h h' h1 : MH} {σ : L2.St} {H H1 H' : Hp} {p : Addr} {d : MP.D}
/-- a new object becomes a value -/
theorem F_rep {R : Hp → Prop} (rl0 : Rel S ι e h σ H) (hp : H p = none) (ni : p ∉ ι') (g : Go ι (Mu S.M0 ι e σ) H ι' (Mu (SP1 S p).M0 ι' e σ) H') (rl : Rel (SP1 S p) ι' e h' σ H') (c : ContAt S.C ι' (Mu (SP1 S p).M0 ι' e σ) H' p d)
    (K : ∀ H2, Go ι (Mu S.M0 ι e σ) H ι' (Mu S.M0 ι' e σ) H2 → Rel S ι' e h' σ H2 → Rep S.C ι' (Mu S.M0 ι' e σ) H2 (.ref p) d → R H2) : LockQ R H' := by
  have nm := rl0.notMu hp ni
  have lk : ∀ {u : HO}, (∀ o, Rep S.C ι' (Mu S.M0 ι' e σ) (upd H' p (.frz o u)) (.ref p) d) → H' p = some u → Mut (some u) → LockQ R H' := fun {u} rp q mu => .lock q mu fun o => .done (by
    have gw : Go ι' (Mu (SP1 S p).M0 ι' e σ) H' ι' (Mu (SP1 S p).M0 ι' e σ) (upd H' p (.frz o u)) := Go.write (SP1.mu.mpr (.inr rfl))
    exact K _ ((g.trans gw).trans SP1.less) (rl0.writeP hp rl ni).drop (rp o))
  have gw : ∀ {o : HO}, Go ι' (Mu (SP1 S p).M0 ι' e σ) H' ι' (Mu S.M0 ι' e σ) (upd H' p o) := (Go.write (SP1.mu.mpr (.inr rfl))).trans SP1.less
  cases c with
  | lst q r => exact .done (K _ (g.trans SP1.less) rl.drop (.lst nm q (r.go SP1.less)))
  | ins q r => exact .done (K _ (g.trans SP1.less) rl.drop (.ins nm q (r.go SP1.less)))
  | dctK q r => exact lk (fun o => .dctK nm upd_same (r.go gw)) q True.intro
  | dctT q r => exact lk (fun o => .dctT nm upd_same (r.go gw)) q True.intro
theorem PE.ofF {tb : Tb} {Φ : Nat → List MP.D → MH → R MP.D} {X : Cx} {ex : Expr} {m : M} (h : PE X ex (tF tb Φ S m)) : PE X ex (tE tb Φ S m) :=
  PE.imp (PE.lock h) fun σ H Q ⟨ι, e, h, rl, d, h', eq, K⟩ => ⟨ι, e, h, rl, d, h', eq, fun ι' H' p hp ni g rl' c => F_rep rl hp ni g rl' c fun H2 g2 rl2 r2 => K ι' H2 _ g2 rl2 r2⟩
end
end MP

set_option maxRecDepth 100000
set_option maxHeartbeats 1000000
/-! MP11: the checker: a MiniPy text is the row's own text. -/
namespace MP
open PySem PySem.Spec PyProof.Rows L2

/-- where a text's defs, classes and constants stand, and how they are named -/
structure Tx where
  ca : Nat → Addr
  fa : Nat → Addr
  fdat : Nat → FuncData
  fps : Nat → List Str
  /-- hands back a new list or dict -/
  frs : Nat → Bool
  fnN : Nat → Option Str
  clN : Nat → Option Str
  glN : Nat → Option Str
  free : Str → Bool

def dbgOk (y : Str) : Bool := !(y == ("__debug__" : Str)) && !(y == ("__classdict__" : Str))
def visB (sc : Scope) (y : Str) : Bool := match sc.names.lookup y with
  | some .local => true
  | some .cell => true
  | some .free => true
  | _ => false
def locB (sc : Scope) (y : Str) : Bool := match sc.names.lookup y with
  | some .local => true
  | some .cell => true
  | _ => false
def glB (sc : Scope) (y : Str) : Bool := match sc.names.lookup y with
  | some .globalImplicit => true
  | _ => false
/-- nothing that is told apart by its place -/
def plainA : Expr → Bool
  | .Starred .. => false
  | .Slice .. => false
  | .Set .. => false
  | _ => true
def testP : Expr → Bool
  | .UnaryOp .. => false
  | .BoolOp .. => false
  | .IfExp .. => false
  | .Compare .. => false
  | _ => true
def baseP : Expr → Bool
  | .Call _ [] _ _ => false
  | _ => true
def isC : Const → D → Bool
  | .none, .non => true
  | .bool b, .bl c => b == c
  | .int i, .int j => decide (i = j)
  | .str x, .str y => decide (x = y)
  | _, _ => false
def bltN : Blt → Str
  | .len => "len" | .int => "int" | .list => "list" | .tuple => "tuple" | .abs => "abs" | .max => "max" | .min => "min"
  | .str => "str" | .bool => "bool" | .dict => "dict" | .all => "all"
def tyN (x : Tx) : Ty → Option Str
  | .int => some "int" | .str => some "str" | .bool => some "bool" | .list => some "list" | .tuple => some "tuple" | .cls c => x.clN c
def tyFree (x : Tx) : Ty → Bool
  | .int => x.free "int" | .str => x.free "str" | .bool => x.free "bool" | .list => x.free "list" | .tuple => x.free "tuple" | .cls _ => true
def glo1 (x : Tx) (sc : Scope) (y n : Str) : Bool := decide (y = n) && glB sc y && x.free n
/-- the names of a pattern, assignable -/
def chkNms (N : List Str) (sc : Scope) : List Nat → List Expr → Bool
  | [], [] => true
  | i :: r, .Name y _ :: es => decide (N[i]? = some y) && locB sc y && chkNms N sc r es
  | _, _ => false
def chkP (N : List Str) (sc : Scope) : Pat → Expr → Bool
  | .nm i, .Name y _ => decide (N[i]? = some y) && locB sc y
  | .tp l, .Tuple es _ _ => chkNms N sc l es && decide (2 ≤ l.length)
  | _, _ => false
def isCmp : M → Bool
  | .cmp .. => true
  | .chn .. => true
  | _ => false
def ownL (N : List Str) (ws : List Nat) : List (Str × Nat) := ws.map fun i => ((N[i]?).getD "", i)

/-- what makes a new list or dict -/
def isF (x : Tx) : M → Bool
  | .lst _ => true
  | .dct _ => true
  | .lc .. => true
  | .dc .. => true
  | .lrng _ => true
  | .blt b _ => freshBlt b
  | .call f _ => x.frs f
  | _ => false
def bmN : Bmt → Str
  | .lindex => "index" | .tindex => "index" | .lcount => "count" | .get => "get" | .upper => "upper" | .join => "join"
def bmDone : Bmt → Bool
  | .lindex => true | .tindex => true | .lcount => true | .get => true
  | _ => false
section
variable (x : Tx) (N : List Str)
mutual
def chk : Scope → M → Expr → Bool
  | sc, .var i, .Name y _ => decide (N[i]? = some y) && visB sc y && dbgOk y
  | _, .cst d, .Constant c _ _ => isC c d
  | sc, .glo g, .Name y _ => decide (x.glN g = some y) && glB sc y && dbgOk y
  | sc, .bin op a b, .BinOp ea o eb _ => decide (bopOf op = o) && chk sc a ea && chk sc b eb
  | sc, .neg a, .UnaryOp .USub ea _ => chk sc a ea
  | sc, .cmp op a b, .Compare ea [o] [eb] _ => decide (copOf op = o) && plainA eb && chk sc a ea && chk sc b eb
  | sc, .chn op op' a b c, .Compare ea [o, o'] [eb, ec] _ => decide (copOf op = o) && decide (copOf op' = o') && plainA ec && chk sc a ea && chk sc b eb && chk sc c ec
  | sc, .andd a b, .BoolOp .And (ea :: eb :: []) _ => chk sc a ea && chk sc b eb
  | sc, .andd a b, .BoolOp .And (ea :: eb :: ec :: r) p => chk sc a ea && chk sc b (.BoolOp .And (eb :: ec :: r) p)
  | sc, .orr a b, .BoolOp .Or (ea :: eb :: []) _ => chk sc a ea && chk sc b eb
  | sc, .orr a b, .BoolOp .Or (ea :: eb :: ec :: r) p => chk sc a ea && chk sc b (.BoolOp .Or (eb :: ec :: r) p)
  | sc, .nott a, .UnaryOp .Not ea _ => chk sc a ea
  | sc, .tup l, .Tuple es _ _ => chkL sc l es
  | sc, .lst l, .List es _ => chkL sc l es
  | sc, .idx a b, .Subscript ea eb _ => plainA eb && chk sc a ea && chk sc b eb
  | sc, .slc a lo hi, .Subscript ea (.Slice el eh none _) _ => chk sc a ea && chkO sc lo el && chkO sc hi eh
  | sc, .att a f, .Attribute ea g _ => decide (f = g) && baseP ea && chk sc a ea
  | sc, .call f l, .Call (.Name y _) es [] _ => decide (x.fnN f = some y) && glB sc y && dbgOk y && chkL sc l es
  | sc, .mk c l, .Call (.Name y _) es [] _ => decide (x.clN c = some y) && glB sc y && dbgOk y && chkL sc l es
  | sc, .mth o m l, .Call (.Attribute eo g ap) es [] p => decide (m = g) && baseP eo && decide (es.length < 30) && (ap.endLine == p.line) && chk sc o eo && chkL sc l es
  | sc, .blt b l, .Call (.Name y _) (e :: es) [] _ => glo1 x sc y (bltN b) && chkL sc l (e :: es)
  | sc, .isi a t, .Call (.Name y _) [ea, .Name z _] [] _ => glo1 x sc y "isinstance" && plainA ea && chk sc a ea && decide (tyN x t = some z) && glB sc z && dbgOk z && tyFree x t
  | sc, .lrng (.rng a), .Call (.Name y _) [.Call (.Name z _) [ea] [] _] [] _ => glo1 x sc y "list" && glo1 x sc z "range" && plainA ea && chk sc a ea
  | sc, .lrng (.rng2 a b), .Call (.Name y _) [.Call (.Name z _) [ea, eb] [] _] [] _ => glo1 x sc y "list" && glo1 x sc z "range" && plainA ea && plainA eb && chk sc a ea && chk sc b eb
  | sc, .lc ws elt p it cs, .ListComp ee [⟨tg, iter, ifs, 0⟩] scope _ => blkC N sc scope (ownL N ws) && chkP N scope p tg && plainA iter && chkI sc it iter && chkTs (relS scope sc) cs ifs && chk (relS scope sc) elt ee
  | sc, .dct l, .Dict ks vs _ => chkK sc l ks vs && decide (ks.length ≤ 15)
  | sc, .dc ws k v p it cs, .DictComp ek ev [⟨tg, iter, ifs, 0⟩] scope _ => blkC N sc scope (ownL N ws) && chkP N scope p tg && plainA iter && chkI sc it iter && chkTs (relS scope sc) cs ifs && chk (relS scope sc) k ek && chk (relS scope sc) v ev
  | sc, .bm b o l, .Call (.Attribute eo g ap) (e :: es) [] p => decide (bmN b = g) && bmDone b && baseP eo && decide ((e :: es).length < 30) && (ap.endLine == p.line) && chk sc o eo && chkL sc l (e :: es)
  | _, _, _ => false
def chkK : Scope → Kvs → List (Option Expr) → List Expr → Bool
  | _, .nil, [], [] => true
  | sc, .cons k v l, some ek :: ks, ev :: vs => chk sc k ek && chk sc v ev && chkK sc l ks vs
  | _, _, _, _ => false
def chkL : Scope → Ms → List Expr → Bool
  | _, .nil, [] => true
  | sc, .cons m l, e :: es => plainA e && chk sc m e && chkL sc l es
  | _, _, _ => false
def chkO : Scope → Mo → Option Expr → Bool
  | _, .no, none => true
  | sc, .so m, some e => chk sc m e
  | _, _, _ => false
def chkI : Scope → It → Expr → Bool
  | sc, .val m, e => chk sc m e
  | sc, .rng a, .Call (.Name z _) [ea] [] _ => glo1 x sc z "range" && plainA ea && chk sc a ea
  | sc, .rng2 a b, .Call (.Name z _) [ea, eb] [] _ => glo1 x sc z "range" && plainA ea && plainA eb && chk sc a ea && chk sc b eb
  | _, _, _ => false
def chkT : Scope → T → Expr → Bool
  | sc, .v m, e => (testP e || isCmp m) && chk sc m e
  | sc, .and a b, .BoolOp .And (ea :: eb :: []) _ => chkT sc a ea && chkT sc b eb
  | sc, .and a b, .BoolOp .And (ea :: eb :: ec :: r) p => chkT sc a ea && chkT sc b (.BoolOp .And (eb :: ec :: r) p)
  | sc, .or a b, .BoolOp .Or (ea :: eb :: []) _ => chkT sc a ea && chkT sc b eb
  | sc, .or a b, .BoolOp .Or (ea :: eb :: ec :: r) p => chkT sc a ea && chkT sc b (.BoolOp .Or (eb :: ec :: r) p)
  | sc, .not a, .UnaryOp .Not ea _ => chkT sc a ea
  | _, _, _ => false
def chkTs : Scope → Ts → List Expr → Bool
  | _, .nil, [] => true
  | sc, .cons c .nil, [e] => chkT sc c e
  | _, _, _ => false
end
end
end MP

set_option maxRecDepth 100000
set_option maxHeartbeats 1000000
/-! MP12: expressions, a lemma for each form. -/
namespace MP
open PySem PySem.Spec PyProof.Rows L2

abbrev cx0 : CXT := fun _ _ _ _ _ _ => False
structure TxF (tb : Tb) (x : Tx) (C : RC) (mg : Str → Option Value) : Prop where
  fn : ∀ (f : Nat) (n : Str), x.fnN f = some n → mg n = some (.ref (x.fa f)) ∧ PySem.W.keepIn C.K (.ref (x.fa f)) = true
  cl : ∀ (c : Nat) (n : Str), x.clN c = some n → mg n = some (.ref (x.ca c))
  gl : ∀ (g : Nat) (n : Str), x.glN g = some n → ∃ u v, mg n = some u ∧ RelV v u ∧ ∀ ι M H, Rep C ι M H v (tb.glo g)
  fre : ∀ n : Str, x.free n = true → mg n = none
  mt : ∀ (c : Nat) (m : Str) (f : Nat), tb.meth c m = some f → Meth C.K (x.ca c) m (x.fa f)
  mfn : ∀ (c : Nat) (m : Str) (f : Nat), tb.meth c m = some f → PySem.W.fnIn C.K (x.fa f) = true
  mkr : ∀ (c f : Nat), tb.init c = some f → Mk C.K (x.ca c) (x.fa f)
  fld : ∀ (c : Nat) (f : Str), tb.fld c f = true → NoAttr C.K (x.ca c) f
  cls : ∀ c, ClsF C.K (x.ca c)
  ty : TyF tb C.K x.ca
  bnd : ∀ f, Binds C.K (x.fdat f) (x.fps f) []
  bndD : ∀ f n, n + (tb.dfl f n).length = (x.fps f).length → ∃ ds dvs, Binds C.K (x.fdat f) (x.fps f) ds ∧ Vals dvs ds ∧ ∀ ι M H, Reps C ι M H dvs (tb.dfl f n)
/-- a context of a text's code -/
structure Gd (tb : Tb) (Φ : Nat → List D → MH → R D) (x : Tx) (N : List Str) (j : Nat) (S : SC) (X : Cx) : Prop where
  C : S.C = cx X x.ca
  calm : X.calm = true
  nm : X.N = N
  nd : N.Nodup
  hu : X.A.units + 65 < cLine
  tx : TxF tb x S.C X.mg
  fn : ∀ f, FnOk X.prog X.w X.K X.mg X.base cx0 j (x.fa f) (x.fdat f) (x.fps f) (spF S.C (x.fps f).length (x.frs f) (Φ f))
  room : Room (j + 1) X.A

section
variable {X : Cx} {e : Expr} {es : List Expr}
theorem PA.imp {t t' : TA} (h : PA X es t) (i : ∀ σ H Q, t' σ H Q → t σ H Q) : PA X es t' := ⟨fun pos pins s σ H Q I q => h.run pos pins s σ H Q I (i σ H Q q)⟩
theorem PT.imp {t t' : TT} (h : PT X e t) (i : ∀ σ H Q, t' σ H Q → t σ H Q) : PT X e t' := ⟨fun pins s σ H Q I q => h.run pins s σ H Q I (i σ H Q q)⟩
theorem PTs.imp {t t' : TT} (h : PTs X es t) (i : ∀ σ H Q, t' σ H Q → t σ H Q) : PTs X es t' := ⟨fun pins s σ H Q I q => h.run pins s σ H Q I (i σ H Q q)⟩
theorem visB_of {sc : Scope} {y : Str} (h : visB sc y = true) : Vis sc y := by
  unfold visB at h
  split at h
  · exact .inl (by assumption)
  · exact .inr (.inl (by assumption))
  · exact .inr (.inr (by assumption))
  · cases h
theorem glB_of {sc : Scope} {y : Str} (h : glB sc y = true) (e : X.env.scope = sc) : Gl X y := by
  unfold glB at h
  split at h
  · subst e; assumption
  · cases h
theorem dbg1 {y : Str} (h : dbgOk y = true) : (y == ("__debug__" : Str)) = false := by
  unfold dbgOk at h
  rw [Bool.and_eq_true] at h
  exact (Bool.not_eq_true' _).mp h.1
theorem dbg2 {y : Str} (h : dbgOk y = true) : (y == ("__classdict__" : Str)) = false := by
  unfold dbgOk at h
  rw [Bool.and_eq_true] at h
  exact (Bool.not_eq_true' _).mp h.2
theorem plain_star {e : Expr} {es : List Expr} {env : Env} (h : plainA e = true) : starEach (e :: es) env = (false, eval e env) :: starEach es env := by
  cases e <;> first | rfl | cases h
theorem plain_mark {op : CmpOp} {e : Expr} (h : plainA e = true) : behindInMarks op e = false := by
  cases e <;> first | rfl | cases h
theorem plain_ix {e : Expr} (h : plainA e = true) : PlainIx e := by
  intro o i
  cases e <;> first | rfl | cases h
theorem plain_fold {e : Expr} (h : plainA e = true) : ∀ env x, foldedSetIterable e env x = pure x := by
  intro env x
  cases e <;> first | rfl | cases h
theorem test_plain {e : Expr} {env : Env} (h : testP e = true) : ∀ whole, isTrue e env whole = (do let v ← whole; standAt e.pos; holding [v] (truthy v)) := by
  intro whole
  cases e <;> first | rfl | cases h
theorem base_plain {e : Expr} {f : Str} {env : Env} (h : baseP e = true) : attributeBase e f env (eval e env) = eval e env := by
  cases e with
  | Call fn args kws pos =>
    cases args with
    | nil => cases h
    | cons a r => cases fn <;> rfl
  | _ => rfl
end

section
variable {tb : Tb} {Φ : Nat → List D → MH → R D} {x : Tx} {N : List Str} {j : Nat} {S : SC} {X : Cx} {sc : Scope} {e ea eb ec : Expr} {es : List Expr} {a b c m : M} {pos p p2 : Pos} {y : Str}

theorem e_var {i : Nat} (G : Gd tb Φ x N j S X) (hs : X.env.scope = sc) (h1 : N[i]? = some y) (h2 : visB sc y = true) (h3 : dbgOk y = true) : PE X (.Name y pos) (tO tb Φ S (.var i)) := by
  subst hs
  have hN : X.N[i]? = some y := by rw [G.nm]; exact h1
  refine PE.imp (pe_var hN (visB_of h2) (dbg1 h3) (dbg2 h3)) fun σ H Q ⟨ι, e, h, rl, xo, h', eq, K⟩ => ?_
  have eq' : (match e[i]? with
    | some (.val d) => R.ok (.d d) h
    | some (.own _) => R.ok (Od.own i) h
    | _ => R.no) = R.ok xo h' := eq
  cases q : e[i]? with
  | none => rw [q] at eq'; cases eq'
  | some s =>
    rw [q] at eq'
    cases s with
    | no => cases eq'
    | val d =>
      cases eq'
      obtain ⟨v, h1, h2⟩ := rl.val i d q
      exact ⟨v, h1, K ι H v .refl rl h2⟩
    | own d =>
      cases eq'
      obtain ⟨a, h1, _⟩ := rl.own i d q
      exact ⟨_, h1, K ι H _ .refl rl h1⟩
theorem e_of_o (hp : PE X e (tO tb Φ S m)) (hm : ∀ r e h d h', r = R.ok d h' → (∀ i, m = .var i → ∃ d, e[i]? = some (.val d)) → opd m r e h = .ok (.d d) h') (hv : ∀ e h d h' i, m = .var i → ev tb Φ m e h = R.ok d h' → ∃ d, e[i]? = some (.val d)) : PE X e (tE tb Φ S m) :=
  PE.imp hp fun σ H Q ⟨ι, e, h, rl, d, h', eq, K⟩ => ⟨ι, e, h, rl, .d d, h', hm _ _ _ _ _ eq fun i z => hv e h d h' i z eq, fun ι' H' v g rl' r => K ι' H' v g rl' r⟩
theorem e_o (hp : PE X e (tE tb Φ S m)) (hm : ∀ r e h, opd m r e h = r.bind fun d h => .ok (.d d) h) : PE X e (tO tb Φ S m) :=
  PE.imp hp fun σ H Q ⟨ι, e, h, rl, xo, h', eq, K⟩ => by
    rw [hm] at eq
    obtain ⟨d, h1, e1, e2⟩ := bind_ok eq
    cases e2
    exact ⟨ι, e, h, rl, d, _, e1, fun ι' H' v g rl' r => K ι' H' v g rl' r⟩
theorem e_var' {i : Nat} (G : Gd tb Φ x N j S X) (hs : X.env.scope = sc) (h1 : N[i]? = some y) (h2 : visB sc y = true) (h3 : dbgOk y = true) : PE X (.Name y pos) (tE tb Φ S (.var i)) := by
  refine PE.imp (e_var G hs h1 h2 h3) fun σ H Q ⟨ι, e, h, rl, d, h', eq, K⟩ => ⟨ι, e, h, rl, .d d, h', ?_, fun ι' H' v g rl' r => K ι' H' v g rl' r⟩
  have eq' : (match e[i]? with
    | some (.val d) => R.ok d h
    | _ => R.no) = R.ok d h' := eq
  show (match e[i]? with
    | some (.val d) => R.ok (.d d) h
    | some (.own _) => R.ok (Od.own i) h
    | _ => R.no) = R.ok (.d d) h'
  cases q : e[i]? with
  | none => rw [q] at eq'; cases eq'
  | some s =>
    rw [q] at eq'
    cases s <;> cases eq'
    rfl

theorem e_cst {d : D} {co : Const} {k : Nat} (h : isC co d = true) : PE X (.Constant co k pos) (tE tb Φ S (.cst d)) := by
  cases co <;> cases d <;> first | (cases h; done) | skip
  · exact PE.imp pe_non fun σ H Q ⟨ι, e, h, rl, d, h', eq, K⟩ => by cases eq; exact K ι H _ .refl rl .non
  · rename_i b c
    have hb : b = c := beq_iff_eq.mp h
    subst hb
    exact PE.imp pe_bl fun σ H Q ⟨ι, e, h, rl, d, h', eq, K⟩ => by cases eq; exact K ι H _ .refl rl (.bl _)
  · rename_i b c
    have hb : b = c := of_decide_eq_true h
    subst hb
    exact PE.imp pe_int fun σ H Q ⟨ι, e, h, rl, d, h', eq, K⟩ => by cases eq; exact K ι H _ .refl rl (.int _)
  · rename_i b c
    have hb : b = c := of_decide_eq_true h
    subst hb
    exact PE.imp pe_str fun σ H Q ⟨ι, e, h, rl, d, h', eq, K⟩ => by cases eq; exact K ι H _ .refl rl (.str _)
theorem e_glo {g : Nat} (G : Gd tb Φ x N j S X) (hs : X.env.scope = sc) (h1 : x.glN g = some y) (h2 : glB sc y = true) (h3 : dbgOk y = true) : PE X (.Name y pos) (tE tb Φ S (.glo g)) := by
  obtain ⟨u, v, hm, rv, rp⟩ := G.tx.gl g y h1
  exact PE.imp (pe_glob (glB_of h2 hs) hm rv (dbg1 h3)) fun σ H Q ⟨ι, e, h, rl, d, h', eq, K⟩ => by
    cases eq
    exact K ι H v .refl rl (rp _ _ _)
theorem vo2 {S : SC} {ι : List Addr} {e : Ev} {h : MH} {xo yo : Od} {α : Type} {f : D → D → R α} {r : α} {h' : MH} (eq : (match vo e h xo, vo e h yo with
    | some x, some y => f x y
    | _, _ => .no) = R.ok r h') : ∃ dx dy, vo e h xo = some dx ∧ vo e h yo = some dy ∧ f dx dy = R.ok r h' := by
  cases hx : vo e h xo with
  | none => rw [hx] at eq; cases eq
  | some dx =>
    cases hy : vo e h yo with
    | none => rw [hx, hy] at eq; cases eq
    | some dy => rw [hx, hy] at eq; exact ⟨dx, dy, rfl, rfl, eq⟩
theorem e_bin {op : Bop} (G : Gd tb Φ x N j S X) (ha : PE X ea (tO tb Φ S a)) (hb : PE X eb (tO tb Φ S b)) : PE X (.BinOp ea (bopOf op) eb pos) (tE tb Φ S (.bin op a b)) := by
  have bo : OpR X (binaryOp (bopOf op)) (rBin S.C (binD op)) := by rw [G.C]; exact bin_ok op
  refine PE.imp (pe_op bo ha hb) fun σ H Q ⟨ι, e, h, rl, d, h', eq, K⟩ => ?_
  obtain ⟨xo, h1, e1, eq⟩ := bind_ok eq
  obtain ⟨yo, h2, e2, eq⟩ := bind_ok eq
  refine ⟨ι, e, h, rl, xo, h1, e1, fun ι1 H1 v1 g1 rl1 r1 => ⟨ι1, e, h1, rl1, yo, h2, e2, fun ι2 H2 v2 g2 rl2 r2 => ?_⟩⟩
  obtain ⟨dx, dy, hx, hy, hf⟩ := vo2 (S := S) (ι := ι) eq
  obtain ⟨hd, rfl⟩ := of_ok hf
  exact ⟨ι2, _, dx, dy, d, rl2.known, rl2.vo (r1.go g2) hx, rl2.vo r2 hy, hd, fun H3 v s r => K ι2 H3 v (g1.trans (g2.trans (.same s))) (rl2.grow s) r⟩
theorem e_neg (ha : PE X ea (tE tb Φ S a)) : PE X (.UnaryOp .USub ea pos) (tE tb Φ S (.neg a)) := by
  refine PE.imp (pe_un un_neg ha) fun σ H Q ⟨ι, e, h, rl, d, h', eq, K⟩ => ?_
  obtain ⟨dx, h1, e1, eq⟩ := bind_ok eq
  refine ⟨ι, e, h, rl, dx, h1, e1, fun ι1 H1 v1 g1 rl1 r1 => ?_⟩
  cases r1 <;> first | (cases eq; done) | skip
  cases eq
  exact ⟨_, rfl, K ι1 H1 _ g1 rl1 (.int _)⟩
theorem cmp_core {op : Cop} {σ : L2.St} {H : Hp} {Q : VK} {ι : List Addr} {e : Ev} {h h' : MH} {d : D} (rl : Rel S ι e h σ H) (eq : ev tb Φ (.cmp op a b) e h = .ok d h')
    (K : ∀ ι' H' (k : Bool), d = .bl k → Go ι (Mu S.M0 ι e σ) H ι' (Mu S.M0 ι' e σ) H' → Rel S ι' e h' σ H' → Q (.bl k) H') : tOp (rCmp S.C (cmpD op)) (tO tb Φ S a) (tO tb Φ S b) σ H Q := by
  obtain ⟨xo, h1, e1, eq⟩ := bind_ok eq
  obtain ⟨yo, h2, e2, eq⟩ := bind_ok eq
  refine ⟨ι, e, h, rl, xo, h1, e1, fun ι1 H1 v1 g1 rl1 r1 => ⟨ι1, e, h1, rl1, yo, h2, e2, fun ι2 H2 v2 g2 rl2 r2 => ?_⟩⟩
  obtain ⟨dx, dy, hx, hy, hf⟩ := vo2 (S := S) (ι := ι) eq
  obtain ⟨hd, rfl⟩ := of_ok hf
  obtain ⟨k, hk, rfl⟩ := Option.map_eq_some_iff.mp hd
  exact ⟨ι2, _, dx, dy, k, rl2.known, rl2.vo (r1.go g2) hx, rl2.vo r2 hy, hk, K ι2 H2 k rfl (g1.trans g2) rl2⟩
theorem e_cmp {op : Cop} (G : Gd tb Φ x N j S X) (ha : PE X ea (tO tb Φ S a)) (hb : PE X eb (tO tb Φ S b)) (hp : plainA eb = true) : PE X (.Compare ea [copOf op] [eb] pos) (tE tb Φ S (.cmp op a b)) := by
  have bo : OpR X (compareOp (copOf op)) (rCmp S.C (cmpD op)) := by rw [G.C]; exact cmp_ok G.hu op
  exact PE.imp (pe_cmpR bo ha hb (plain_mark hp)) fun σ H Q ⟨ι, e, h, rl, d, h', eq, K⟩ => cmp_core rl eq fun ι' H' k ed g rl' => K ι' H' _ g rl' (ed ▸ .bl k)
theorem t_cmp {op : Cop} (G : Gd tb Φ x N j S X) (ha : PE X ea (tO tb Φ S a)) (hb : PE X eb (tO tb Φ S b)) (hp : plainA eb = true) : PT X (.Compare ea [copOf op] [eb] pos) (tT tb Φ S (.v (.cmp op a b))) := by
  have bo : OpR X (compareOp (copOf op)) (rCmp S.C (cmpD op)) := by rw [G.C]; exact cmp_ok G.hu op
  refine PT.imp (pt_cmpR bo ha hb (plain_mark hp)) fun σ H Q ⟨ι, e, h, rl, t, h', eq, K⟩ => ?_
  obtain ⟨xo, h1, e1, eq⟩ := bind_ok eq
  obtain ⟨d, h2, e2, e3⟩ := bind_ok (show (ev tb Φ (.cmp op a b) e h).bind (fun d h => .ok (Od.d d) h) = R.ok xo h1 from e1)
  cases e3
  obtain ⟨eq, rfl⟩ := of_ok eq
  refine cmp_core rl e2 fun ι' H' k ed g rl' => ⟨k, rfl, ?_⟩
  subst ed
  have : t = k := by
    have z : some k = some t := eq
    exact (Option.some.inj z).symm
  subst this
  exact K ι' H' g rl'
theorem chn_core {op op' : Cop} {σ : L2.St} {H : Hp} {Q : VK} {ι : List Addr} {e : Ev} {h h' : MH} {d : D} (rl : Rel S ι e h σ H) (eq : ev tb Φ (.chn op op' a b c) e h = .ok d h')
    (K : ∀ ι' H' (k : Bool), d = .bl k → Go ι (Mu S.M0 ι e σ) H ι' (Mu S.M0 ι' e σ) H' → Rel S ι' e h' σ H' → Q (.bl k) H') : tChain (rCmp S.C (cmpD op)) (rCmp S.C (cmpD op')) (tO tb Φ S a) (tO tb Φ S b) (tO tb Φ S c) σ H Q := by
  obtain ⟨xo, h1, e1, eq⟩ := bind_ok eq
  obtain ⟨yo, h2, e2, eq⟩ := bind_ok eq
  refine ⟨ι, e, h, rl, xo, h1, e1, fun ι1 H1 v1 g1 rl1 r1 => ⟨ι1, e, h1, rl1, yo, h2, e2, fun ι2 H2 v2 g2 rl2 r2 => ?_⟩⟩
  obtain ⟨dx, dy, hx, hy, hf⟩ := vo2 (S := S) (ι := ι) eq
  cases hk : cmpD op dx dy with
  | none => rw [hk] at hf; cases hf
  | some k =>
    rw [hk] at hf
    refine ⟨ι2, _, dx, dy, k, rl2.known, rl2.vo (r1.go g2) hx, rl2.vo r2 hy, hk, k, rfl, ?_⟩
    cases k with
    | false =>
      cases hf
      exact K ι2 H2 false rfl (g1.trans g2) rl2
    | true =>
      obtain ⟨zo, h3, e3, hf⟩ := bind_ok hf
      refine ⟨ι2, e, h2, rl2, zo, h3, e3, fun ι3 H3 v3 g3 rl3 r3 => ?_⟩
      obtain ⟨dy', dz, hy', hz, hf⟩ := vo2 (S := S) (ι := ι) hf
      obtain ⟨hd, rfl⟩ := of_ok hf
      obtain ⟨k, hk, rfl⟩ := Option.map_eq_some_iff.mp hd
      exact ⟨ι3, _, dy', dz, k, rl3.known, rl3.vo (r2.go g3) hy', rl3.vo r3 hz, hk, K ι3 H3 k rfl (g1.trans (g2.trans g3)) rl3⟩
theorem plain_last {op op' : CmpOp} {b c : Expr} (h : plainA c = true) : lastMarks [op, op'] [b, c] = false := plain_mark (op := op') h
theorem e_chn {op op' : Cop} (G : Gd tb Φ x N j S X) (ha : PE X ea (tO tb Φ S a)) (hb : PE X eb (tO tb Φ S b)) (hc : PE X ec (tO tb Φ S c)) (hp : plainA ec = true) : PE X (.Compare ea [copOf op, copOf op'] [eb, ec] pos) (tE tb Φ S (.chn op op' a b c)) := by
  have bo : ∀ op, OpR X (compareOp (copOf op)) (rCmp S.C (cmpD op)) := fun op => by rw [G.C]; exact cmp_ok G.hu op
  exact PE.imp (pe_chain (bo op) (bo op') ha hb hc (plain_last hp)) fun σ H Q ⟨ι, e, h, rl, d, h', eq, K⟩ => chn_core rl eq fun ι' H' k ed g rl' => K ι' H' _ g rl' (ed ▸ .bl k)
theorem t_chn {op op' : Cop} (G : Gd tb Φ x N j S X) (ha : PE X ea (tO tb Φ S a)) (hb : PE X eb (tO tb Φ S b)) (hc : PE X ec (tO tb Φ S c)) (hp : plainA ec = true) : PT X (.Compare ea [copOf op, copOf op'] [eb, ec] pos) (tT tb Φ S (.v (.chn op op' a b c))) := by
  have bo : ∀ op, OpR X (compareOp (copOf op)) (rCmp S.C (cmpD op)) := fun op => by rw [G.C]; exact cmp_ok G.hu op
  refine PT.imp (pt_chain (bo op) (bo op') ha hb hc (plain_last hp)) fun σ H Q ⟨ι, e, h, rl, t, h', eq, K⟩ => ?_
  obtain ⟨xo, h1, e1, eq⟩ := bind_ok eq
  obtain ⟨d, h2, e2, e3⟩ := bind_ok (show (ev tb Φ (.chn op op' a b c) e h).bind (fun d h => .ok (Od.d d) h) = R.ok xo h1 from e1)
  cases e3
  obtain ⟨eq, rfl⟩ := of_ok eq
  refine chn_core rl e2 fun ι' H' k ed g rl' => ⟨k, rfl, ?_⟩
  subst ed
  have : t = k := by
    have z : some k = some t := eq
    exact (Option.some.inj z).symm
  subst this
  exact K ι' H' g rl'
/-! and, or, not as values -/
theorem e_and {rest : List Expr} {eb : Expr} (ha : PE X ea (tE tb Φ S a)) (hb : PE X (.BoolOp .And (eb :: rest) pos) (tE tb Φ S b)) : PE X (.BoolOp .And (ea :: eb :: rest) pos) (tE tb Φ S (.andd a b)) := by
  refine PE.imp (pe_and ha hb) fun σ H Q ⟨ι, e, h, rl, d, h', eq, K⟩ => ?_
  obtain ⟨dx, h1, e1, eq⟩ := bind_ok eq
  refine ⟨ι, e, h, rl, dx, h1, e1, fun ι1 H1 v1 g1 rl1 r1 => ?_⟩
  cases r1 <;> first | (cases eq; done) | skip
  rename_i k
  cases k with
  | false => cases eq; exact ⟨false, rfl, K ι1 H1 _ g1 rl1 (.bl _)⟩
  | true => exact ⟨true, rfl, ι1, e, h1, rl1, d, h', eq, fun ι2 H2 v2 g2 rl2 r2 => K ι2 H2 v2 (g1.trans g2) rl2 r2⟩
theorem e_or {rest : List Expr} {eb : Expr} (ha : PE X ea (tE tb Φ S a)) (hb : PE X (.BoolOp .Or (eb :: rest) pos) (tE tb Φ S b)) : PE X (.BoolOp .Or (ea :: eb :: rest) pos) (tE tb Φ S (.orr a b)) := by
  refine PE.imp (pe_or ha hb) fun σ H Q ⟨ι, e, h, rl, d, h', eq, K⟩ => ?_
  obtain ⟨dx, h1, e1, eq⟩ := bind_ok eq
  refine ⟨ι, e, h, rl, dx, h1, e1, fun ι1 H1 v1 g1 rl1 r1 => ?_⟩
  cases r1 <;> first | (cases eq; done) | skip
  rename_i k
  cases k with
  | true => cases eq; exact ⟨true, rfl, K ι1 H1 _ g1 rl1 (.bl _)⟩
  | false => exact ⟨false, rfl, ι1, e, h1, rl1, d, h', eq, fun ι2 H2 v2 g2 rl2 r2 => K ι2 H2 v2 (g1.trans g2) rl2 r2⟩
theorem e_not (ha : PE X ea (tE tb Φ S a)) : PE X (.UnaryOp .Not ea pos) (tE tb Φ S (.nott a)) := by
  refine PE.imp (pe_not ha) fun σ H Q ⟨ι, e, h, rl, d, h', eq, K⟩ => ?_
  obtain ⟨dx, h1, e1, eq⟩ := bind_ok eq
  refine ⟨ι, e, h, rl, dx, h1, e1, fun ι1 H1 v1 g1 rl1 r1 => ?_⟩
  cases r1 <;> first | (cases eq; done) | skip
  cases eq
  exact ⟨_, rfl, K ι1 H1 _ g1 rl1 (.bl _)⟩
/-! displays -/
theorem a_nil : PA X [] (tEs tb Φ S .nil) := PA.imp pa_nil fun σ H Q ⟨ι, e, h, rl, d, h', eq, K⟩ => by cases eq; exact K ι H _ .refl rl .nil
theorem a_cons {l : Ms} (ha : PE X ea (tE tb Φ S a)) (hr : PA X es (tEs tb Φ S l)) (hp : plainA ea = true) : PA X (ea :: es) (tEs tb Φ S (.cons a l)) := by
  refine PA.imp (pa_cons ha hr (plain_star hp)) fun σ H Q ⟨ι, e, h, rl, d, h', eq, K⟩ => ?_
  obtain ⟨dx, h1, e1, eq⟩ := bind_ok eq
  obtain ⟨ds, h2, e2, eq⟩ := bind_ok eq
  cases eq
  exact ⟨ι, e, h, rl, dx, h1, e1, fun ι1 H1 v1 g1 rl1 r1 => ⟨ι1, e, h1, rl1, ds, _, e2, fun ι2 H2 v2 g2 rl2 r2 => K ι2 H2 _ (g1.trans g2) rl2 (.cons (r1.go g2) r2)⟩⟩
theorem ao_nil : PA X [] (tOs tb Φ S .nil) := PA.imp pa_nil fun σ H Q ⟨ι, e, h, rl, d, h', eq, K⟩ => by cases eq; exact K ι H _ .refl rl .nil
theorem OReps.go {ι ι' : List Addr} {e : Ev} {σ : L2.St} {H H' : Hp} : ∀ {vs : List V} {xs : List Od}, OReps S ι e σ H vs xs → Go ι (Mu S.M0 ι e σ) H ι' (Mu S.M0 ι' e σ) H' → OReps S ι' e σ H' vs xs
  | _, _, .nil, _ => .nil
  | _, _, .cons r rs, g => .cons (r.go g) (OReps.go rs g)
theorem ao_cons {l : Ms} (ha : PE X ea (tO tb Φ S a)) (hr : PA X es (tOs tb Φ S l)) (hp : plainA ea = true) : PA X (ea :: es) (tOs tb Φ S (.cons a l)) := by
  refine PA.imp (pa_cons ha hr (plain_star hp)) fun σ H Q ⟨ι, e, h, rl, d, h', eq, K⟩ => ?_
  obtain ⟨dx, h1, e1, eq⟩ := bind_ok eq
  obtain ⟨ds, h2, e2, eq⟩ := bind_ok eq
  cases eq
  exact ⟨ι, e, h, rl, dx, h1, e1, fun ι1 H1 v1 g1 rl1 r1 => ⟨ι1, e, h1, rl1, ds, _, e2, fun ι2 H2 v2 g2 rl2 r2 => K ι2 H2 _ (g1.trans g2) rl2 (.cons (r1.go g2) r2)⟩⟩
theorem ite_ok {α : Type} {c : Prop} [Decidable c] {a : R α} {r : α} {h : MH} (eq : (if c then a else R.no) = R.ok r h) : c ∧ a = R.ok r h := by
  split at eq
  · exact ⟨by assumption, eq⟩
  · cases eq
theorem e_tup {l : Ms} {k : Nat} (hl : PA X es (tEs tb Φ S l)) : PE X (.Tuple es k pos) (tE tb Φ S (.tup l)) := by
  refine PE.imp (pe_tupN hl) fun σ H Q ⟨ι, e, h, rl, d, h', eq, K⟩ => ?_
  obtain ⟨ds, h1, e1, eq⟩ := bind_ok eq
  obtain ⟨hc, eq⟩ := ite_ok eq
  cases eq
  exact ⟨ι, e, h, rl, ds, _, e1, fun ι1 H1 vs g1 rl1 r1 => ⟨by rw [r1.length]; exact lim_le hc, fun p o hp ho => K ι1 _ _ (g1.trans (.same (same_laid hp))) (rl1.grow (same_laid hp)) (.tupNew rl1.known hp ho r1)⟩⟩
theorem e_lstF {l : Ms} (hl : PA X es (tEs tb Φ S l)) : PE X (.List es pos) (tF tb Φ S (.lst l)) := by
  refine PE.imp (pe_lst hl) fun σ H Q ⟨ι, e, h, rl, d, h', eq, K⟩ => ?_
  obtain ⟨ds, h1, e1, eq⟩ := bind_ok eq
  obtain ⟨hc, eq⟩ := ite_ok eq
  cases eq
  exact ⟨ι, e, h, rl, ds, _, e1, fun ι1 H1 vs g1 rl1 r1 => ⟨by rw [r1.length]; exact lim_le hc, fun p hp => K ι1 _ p (g1.back hp) (rl1.notin hp) (g1.trans (goNew hp)) (rl1.plusNew hp) (.lst upd_same (r1.go (goNew hp)))⟩⟩
/-! subscripts, fields -/
def tMo (tb : Tb) (Φ : Nat → List D → MH → R D) (S : SC) (o : Mo) : TO := fun σ H Q => ∃ ι e h, Rel S ι e h σ H ∧ OutP S e σ (evo tb Φ o e h) ι H Q
theorem o_no : PO X none (tMo tb Φ S .no) := ⟨fun pins s σ H Q I ⟨ι, e, h, rl, d, h', eq, K⟩ => by
  cases eq
  exact po_none.run pins s σ H Q I (K ι H .refl rl)⟩
theorem o_so (ha : PE X ea (tE tb Φ S a)) : PO X (some ea) (tMo tb Φ S (.so a)) := ⟨fun pins s σ H Q I ⟨ι, e, h, rl, d, h', eq, K⟩ => by
  refine (po_some ha).run pins s σ H Q I ?_
  obtain ⟨dx, h1, e1, eq⟩ := bind_ok eq
  refine ⟨ι, e, h, rl, dx, h1, e1, fun ι1 H1 v1 g1 rl1 r1 => ?_⟩
  cases r1 <;> first | (cases eq; done) | skip
  cases eq
  exact ⟨_, rfl, K ι1 H1 g1 rl1⟩⟩
theorem e_slc {lo hi : Mo} {el eh : Option Expr} (G : Gd tb Φ x N j S X) (ha : PE X ea (tO tb Φ S a)) (hl : PO X el (tMo tb Φ S lo)) (hh : PO X eh (tMo tb Φ S hi)) : PE X (.Subscript ea (.Slice el eh none p2) pos) (tE tb Φ S (.slc a lo hi)) := by
  have bo : SlR X (rSlc S.C) := by rw [G.C]; exact slc_ok
  refine PE.imp (pe_slice bo ha hl hh) fun σ H Q ⟨ι, e, h, rl, d, h', eq, K⟩ => ?_
  obtain ⟨xo, h1, e1, eq⟩ := bind_ok eq
  obtain ⟨lo', h2, e2, eq⟩ := bind_ok eq
  obtain ⟨hi', h3, e3, eq⟩ := bind_ok eq
  refine ⟨ι, e, h, rl, xo, h1, e1, fun ι1 H1 v1 g1 rl1 r1 => ⟨ι1, e, h1, rl1, lo', h2, e2, fun ι2 H2 g2 rl2 => ⟨ι2, e, h2, rl2, hi', h3, e3, fun ι3 H3 g3 rl3 => ?_⟩⟩⟩
  cases hx : vo e h3 xo with
  | none => rw [hx] at eq; cases eq
  | some dx =>
    rw [hx] at eq
    obtain ⟨hd, rfl⟩ := of_ok eq
    exact ⟨ι3, _, dx, d, rl3.known, rl3.vo (r1.go (g2.trans g3)) hx, hd, fun H' v s r => K ι3 H' v (g1.trans (g2.trans (g3.trans (.same s)))) (rl3.grow s) r⟩
theorem RepFs.lookup {C : RC} {ι : List Addr} {M : Addr → Prop} {H : Hp} {f : Str} : ∀ {fs : List (Str × D)} {vfs : List (Str × V)}, RepFs C ι M H vfs fs → (fs.lookup f = none ∧ vfs.lookup f = none) ∨ ∃ d v, fs.lookup f = some d ∧ vfs.lookup f = some v ∧ Rep C ι M H v d
  | _, _, .nil => .inl ⟨rfl, rfl⟩
  | (y, d) :: fs, _, .cons (v := v) (vs := vs) r rs => by
    simp only [List.lookup_cons]
    by_cases e : f == y
    · rw [e]; exact .inr ⟨d, v, rfl, rfl, r⟩
    · rw [Bool.not_eq_true] at e
      rw [e]; exact RepFs.lookup rs
theorem e_att {f : Str} (G : Gd tb Φ x N j S X) (ha : PE X ea (tE tb Φ S a)) (hp : baseP ea = true) : PE X (.Attribute ea f pos) (tE tb Φ S (.att a f)) := by
  refine PE.imp (pe_fld ha (base_plain hp)) fun σ H Q ⟨ι, e, h, rl, d, h', eq, K⟩ => ?_
  obtain ⟨dx, h1, e1, eq⟩ := bind_ok eq
  refine ⟨ι, e, h, rl, dx, h1, e1, fun ι1 H1 v1 g1 rl1 r1 => ?_⟩
  cases hv : view dx h1 with
  | none => rw [hv] at eq; cases eq
  | some dv =>
    rw [hv] at eq
    have rv := rl1.view r1 hv
    cases rv <;> first | (cases eq; done) | skip
    rename_i ad c dx' vfs fs hr hfs
    obtain ⟨hc, eq⟩ := ite_ok eq
    obtain ⟨hd, rfl⟩ := of_ok eq
    have hca : S.C.ca = x.ca := by rw [G.C]
    have hK : S.C.K = X.K := by rw [G.C]
    rcases hfs.lookup (f := f) with ⟨z, _⟩ | ⟨d', v, h2, h3, h4⟩
    · have hd' : fs.lookup f = some d := hd
      rw [z] at hd'; cases hd'
    · have hd' : fs.lookup f = some d := hd
      rw [h2] at hd'
      cases hd'
      refine ⟨ad, _, dx', vfs, v, rfl, hr, ?_, ?_, h3, K ι1 H1 v g1 rl1 h4⟩
      · rw [hca, ← hK]; exact (G.tx.cls c).cl
      · rw [hca, ← hK]; exact G.tx.fld c f hc
end
end MP

set_option maxRecDepth 100000
set_option maxHeartbeats 1000000
/-! MP13: calls, tests. -/
namespace MP
open PySem PySem.Spec PyProof.Rows L2

section
variable {x : Tx} {N : List Str}
theorem chkL_plain {sc : Scope} : ∀ {l : Ms} {es : List Expr}, chkL x N sc l es = true → es.all plainA = true
  | .nil, [], _ => rfl
  | .cons m l, e :: es, h => by
    have h' : (plainA e && chk x N sc m e && chkL x N sc l es) = true := h
    simp only [Bool.and_eq_true] at h'
    show (plainA e && es.all plainA) = true
    rw [h'.1.1, chkL_plain h'.2]; rfl
  | .nil, _ :: _, h => by cases h
  | .cons _ _, [], h => by cases h
theorem plain_all {es : List Expr} {env : Env} (h : es.all plainA = true) : starEach es env = es.map fun e => (false, eval e env) := by
  induction es with
  | nil => rfl
  | cons e es ih =>
    have h' : (plainA e && es.all plainA) = true := h
    rw [Bool.and_eq_true] at h'
    rw [plain_star h'.1, ih h'.2]
    rfl
theorem plain_any {es : List Expr} {env : Env} {pos : Pos} (h : es.all plainA = true) : (backTo pos (starEach es env)).any (·.1) = false := by
  rw [plain_all h]
  unfold backTo
  simp
theorem plain_form {es : List Expr} {env : Env} {pos : Pos} (h : es.all plainA = true) (hl : es.length < 30) : methodCallForm (es.length + ([] : List Keyword).length) (backTo pos (starEach es env)) (backToKw pos (keywordEach [] env)) = true := by
  rw [plain_all h]
  unfold methodCallForm backTo backToKw keywordEach
  simp [hl]
theorem meth_form {o : Expr} {es : List Expr} {m : Str} {env : Env} {apos pos : Pos} (hp : baseP o = true) (h : es.all plainA = true) (hl : es.length < 30) (hn : (apos.endLine == pos.line) = true) :
    eval (.Call (.Attribute o m apos) es [] pos) env = (do
      let ov ← eval o env
      standAt apos.atName
      let (f, first) ← holding [ov] (getMethod ov m (do return (← importBound o env).getD true))
      callWith pos f first (backTo pos (starEach es env)) (backToKw pos (keywordEach [] env))) := by
  show (do
    let ov ← attributeBase o m env (eval o env)
    standAt apos.atName
    methodCall o m apos pos env ov (es.length + ([] : List Keyword).length) (backTo pos (starEach es env)) (backToKw pos (keywordEach [] env))) = _
  rw [base_plain hp]
  refine congrArg (fun k => eval o env >>= k) (funext fun ov => congrArg (fun k => standAt apos.atName >>= k) (funext fun _ => ?_))
  unfold methodCall
  rw [plain_form h hl]
  unfold methodCallPos
  rw [hn]
  rfl
end

section
variable {tb : Tb} {Φ : Nat → List D → MH → R D} {x : Tx} {N : List Str} {j : Nat} {S : SC} {X : Cx} {sc : Scope} {e ea eb ec : Expr} {es : List Expr} {a b c m : M} {pos p p2 apos : Pos} {y : Str}

theorem pass0 : Passes cx0 X (fun _ _ _ => False) := fun _ _ _ _ _ _ _ h => h.elim
/-- a def's call within a scene -/
theorem sp_of {ι : List Addr} {e : Ev} {h h' : MH} {σ : L2.St} {H : Hp} {vs : List V} {ds : List D} {d : D} {f np : Nat} {fr : Bool} {Q : VK} {E : XK} (rl : Rel S ι e h σ H) (r : Reps S.C ι (Mu S.M0 ι e σ) H vs ds) (hn : vs.length = np) (eq : Φ f ds h = .ok d h')
    (K : ∀ ι' H' v, Go ι (Mu S.M0 ι e σ) H ι' (Mu S.M0 ι' e σ) H' → Rel S ι' e h' σ H' → Rep S.C ι' (Mu S.M0 ι' e σ) H' v d → Q v H') : spF S.C np fr (Φ f) vs H (fun v H1 => LockQ (Q v) H1) E :=
  ⟨hn, ι, _, ds, h, d, h', rl.scn, r, eq, fun ι' H' v A rv nw => by
    cases fr with
    | false => exact .done (K ι' H' v A.mu (A.rel rl) ((rv rfl).go A.less))
    | true =>
      obtain ⟨p, rfl, hp, ni, g, rl', c⟩ := A.newP rl (nw rfl)
      exact F_rep rl hp ni g rl' c fun H2 g2 rl2 r2 => K ι' H2 _ g2 rl2 r2⟩
/-- .. whose result nothing else knows -/
theorem sp_ofF {ι : List Addr} {e : Ev} {h h' : MH} {σ : L2.St} {H : Hp} {vs : List V} {ds : List D} {d : D} {f np : Nat} {Q : VK} {E : XK} (rl : Rel S ι e h σ H) (r : Reps S.C ι (Mu S.M0 ι e σ) H vs ds) (hn : vs.length = np) (eq : Φ f ds h = .ok d h')
    (K : ∀ ι' H' p, H p = none → p ∉ ι' → Go ι (Mu S.M0 ι e σ) H ι' (Mu (SP1 S p).M0 ι' e σ) H' → Rel (SP1 S p) ι' e h' σ H' → ContAt S.C ι' (Mu (SP1 S p).M0 ι' e σ) H' p d → Q (.ref p) H') : spF S.C np true (Φ f) vs H Q E :=
  ⟨hn, ι, _, ds, h, d, h', rl.scn, r, eq, fun ι' H' v A rv nw => by
    obtain ⟨p, rfl, hp, ni, g, rl', c⟩ := A.newP rl (nw rfl)
    exact K ι' H' p hp ni g rl' c⟩
theorem nil_of {l : Ms} {σ : L2.St} {H : Hp} {P : List V → Hp → Prop} (hz : l = .nil) (q : tEs tb Φ S l σ H P) : P [] H := by
  subst hz
  obtain ⟨ι, e, h, rl, ds, h', eq, K⟩ := q
  cases eq
  exact K ι H [] .refl rl .nil
theorem e_call0 {f : Nat} {l : Ms} {dus : List Value} {dvs : List V} (G : Gd tb Φ x N j S X) (hs : X.env.scope = sc) (h1 : x.fnN f = some y) (h2 : glB sc y = true) (h3 : dbgOk y = true) (hb : Binds X.K (x.fdat f) (x.fps f) dus) (hd : Vals dvs dus) (hl : PA X es (tEs tb Φ S l)) (hz : es = [] → l = .nil) (hp : es.all plainA = true) :
    PE X (.Call (.Name y p) es [] pos) (tCall (spF S.C (x.fps f).length (x.frs f) (Φ f)) dvs (fun _ _ _ => False) (tEs tb Φ S l)) := by
  obtain ⟨hm, hk⟩ := G.tx.fn f y h1
  have hK : S.C.K = X.K := by rw [G.C]
  rw [hK] at hk
  have hr : Room j X.A := G.room.mono (Nat.le_succ j)
  cases es with
  | nil => exact PE.imp (pe_call0 (G.fn f) hr (glB_of h2 hs) hm hk hb hd pass0 (dbg1 h3)) fun σ H Q q => nil_of (hz rfl) q
  | cons e es =>
    have h' : (plainA e && es.all plainA) = true := hp
    rw [Bool.and_eq_true] at h'
    exact pe_call (G.fn f) hr (glB_of h2 hs) hm hk hb hd pass0 hl (dbg1 h3) (plain_star h'.1) (plain_any h'.2)
/-- so many arguments are evaluated -/
theorem evs_len : ∀ {l : Ms} {e : Ev} {h : MH} {ds : List D} {h' : MH}, evs tb Φ l e h = .ok ds h' → ds.length = l.len
  | .nil, e, h, ds, h', q => by cases q; rfl
  | .cons m l, e, h, ds, h', q => by
    obtain ⟨d, h1, _, q⟩ := bind_ok q
    obtain ⟨ds', h2, e2, q⟩ := bind_ok q
    cases q
    exact congrArg (· + 1) (evs_len e2)
theorem e_call {f : Nat} {l : Ms} (G : Gd tb Φ x N j S X) (np : ∀ f ds h d h', Φ f ds h = .ok d h' → ds.length = (x.fps f).length) (hs : X.env.scope = sc) (h1 : x.fnN f = some y) (h2 : glB sc y = true) (h3 : dbgOk y = true) (hl : PA X es (tEs tb Φ S l)) (hz : es = [] → l = .nil) (hp : es.all plainA = true) :
    PE X (.Call (.Name y p) es [] pos) (tE tb Φ S (.call f l)) := by
  have hK : S.C.K = X.K := by rw [G.C]
  by_cases hq : l.len + (tb.dfl f l.len).length = (x.fps f).length
  · obtain ⟨dus, dvs, hb, hd, hr⟩ := G.tx.bndD f l.len hq
    rw [hK] at hb
    refine PE.imp (PE.lock (e_call0 G hs h1 h2 h3 hb hd hl hz hp)) fun σ H Q ⟨ι, e, h, rl, d, h', eq, K⟩ => ?_
    obtain ⟨ds, h1, e1, eq⟩ := bind_ok eq
    have el := evs_len e1
    rw [el] at eq
    refine ⟨ι, e, h, rl, ds, h1, e1, fun ι1 H1 vs g1 rl1 r1 => ?_⟩
    have rr := r1.append (hr ι1 (Mu S.M0 ι1 e σ) H1)
    exact sp_of rl1 rr (by rw [rr.length]; exact np _ _ _ _ _ eq) eq fun ι' H' v g rl' r => K ι' H' v (g1.trans g) rl' r
  · refine ⟨fun pins s σ H Q I ⟨ι, e, h, rl, d, h', eq, K⟩ => ?_⟩
    obtain ⟨ds, h1, e1, eq⟩ := bind_ok eq
    have q := np _ _ _ _ _ eq
    rw [List.length_append, evs_len e1] at q
    exact absurd q hq
theorem e_callF {f : Nat} {l : Ms} (G : Gd tb Φ x N j S X) (np : ∀ f ds h d h', Φ f ds h = .ok d h' → ds.length = (x.fps f).length) (hs : X.env.scope = sc) (h1 : x.fnN f = some y) (h2 : glB sc y = true) (h3 : dbgOk y = true) (hl : PA X es (tEs tb Φ S l)) (hz : es = [] → l = .nil) (hp : es.all plainA = true) (hf : x.frs f = true) :
    PE X (.Call (.Name y p) es [] pos) (tF tb Φ S (.call f l)) := by
  have hK : S.C.K = X.K := by rw [G.C]
  by_cases hq : l.len + (tb.dfl f l.len).length = (x.fps f).length
  · obtain ⟨dus, dvs, hb, hd, hr⟩ := G.tx.bndD f l.len hq
    rw [hK] at hb
    refine PE.imp (e_call0 G hs h1 h2 h3 hb hd hl hz hp) fun σ H Q ⟨ι, e, h, rl, d, h', eq, K⟩ => ?_
    obtain ⟨ds, h1, e1, eq⟩ := bind_ok eq
    have el := evs_len e1
    rw [el] at eq
    refine ⟨ι, e, h, rl, ds, h1, e1, fun ι1 H1 vs g1 rl1 r1 => ?_⟩
    have rr := r1.append (hr ι1 (Mu S.M0 ι1 e σ) H1)
    rw [hf]
    exact sp_ofF rl1 rr (by rw [rr.length]; exact np _ _ _ _ _ eq) eq fun ι' H' p hp ni g rl' c => K ι' H' p (g1.back hp) ni (g1.trans g) rl' c
  · refine ⟨fun pins s σ H Q I ⟨ι, e, h, rl, d, h', eq, K⟩ => ?_⟩
    obtain ⟨ds, h1, e1, eq⟩ := bind_ok eq
    have q := np _ _ _ _ _ eq
    rw [List.length_append, evs_len e1] at q
    exact absurd q hq

/-! methods: the class is known as the code runs -/
def tMthD (X : Cx) (C : RC) (x : Tx) (Φ : Nat → List D → MH → R D) (m : Str) (ta : TE) (t : TA) : TE := fun σ H Q => ta σ H fun v H1 => ∃ a Ca dx fs f, v = .ref a ∧ H1 a = some (.ins Ca dx fs) ∧ fs.lookup m = none ∧ Cls X.K Ca ∧ Meth X.K Ca m (x.fa f) ∧
  t σ H1 fun vs H2 => spF C (x.fps f).length (x.frs f) (Φ f) (v :: vs) H2 Q fun _ _ _ => False
theorem pe_mthD {o : Expr} {ta : TE} {t : TA} {ms : Str} (G : Gd tb Φ x N j S X) (he : PE X o ta) (ha : PA X es t) (hz : es = [] → ∀ σ H P, t σ H P → P [] H) (hb : baseP o = true) (hp : es.all plainA = true) (hn : es.length < 30) (hl : (apos.endLine == pos.line) = true) :
    PE X (.Call (.Attribute o ms apos) es [] pos) (tMthD X S.C x Φ ms ta t) := by
  have hK : S.C.K = X.K := by rw [G.C]
  have hr : Room j X.A := G.room.mono (Nat.le_succ j)
  refine ⟨fun pins s σ H Q I h => ?_⟩
  refine PySem.W.methodCall_KW (thn (he.run pins s σ H _ I h) fun u s1 ⟨v, H1, I1, rx, a, Ca, dx, fs, f, ex, ea, l, c, hm, q⟩ => ?_) (meth_form hb hp hn hl)
  subst ex
  obtain rfl : u = Value.ref a := rx
  refine getmeth_ok I1 ea c hm l ?_
  have hbd : Binds X.K (x.fdat f) (x.fps f) [] := by rw [← hK]; exact G.tx.bnd f
  cases es with
  | nil =>
    refine PySem.W.callWith_K0 (first := [.ref a]) I1.kIn hm.kp (run_fn (us := [.ref a]) (vs := [.ref a]) (G.fn f) hr hbd .nil pass0 I1 (.cons rfl .nil) ?_)
    exact hz rfl _ _ _ q
  | cons e es =>
    have h' : (plainA e && es.all plainA) = true := hp
    rw [Bool.and_eq_true] at h'
    refine PySem.W.callWith_K (first := [.ref a]) (h₀ := X.base) I.ok.mod.kin hm.kp (thn (ha.run pos pins s1 σ H1 _ I1 q) fun us s2 ⟨vs, H2, I2, r, q2⟩ => ⟨I2.kIn, ?_⟩) (plain_star h'.1) (plain_any h'.2)
    refine run_fn (us := .ref a :: us) (vs := .ref a :: vs) (G.fn f) hr hbd .nil pass0 I2 (.cons rfl r) ?_
    show spF S.C _ _ _ (V.ref a :: vs ++ []) H2 Q _
    rw [List.append_nil]
    exact q2
theorem e_mth {o : M} {eo : Expr} {ms : Str} {l : Ms} (G : Gd tb Φ x N j S X) (np : ∀ f ds h d h', Φ f ds h = .ok d h' → ds.length = (x.fps f).length) (ho : PE X eo (tE tb Φ S o)) (hl : PA X es (tEs tb Φ S l)) (hz : es = [] → l = .nil) (hb : baseP eo = true) (hp : es.all plainA = true) (hn : es.length < 30) (hln : (apos.endLine == pos.line) = true) :
    PE X (.Call (.Attribute eo ms apos) es [] pos) (tE tb Φ S (.mth o ms l)) := by
  refine PE.imp (PE.lock (pe_mthD G ho hl (fun z σ H P q => nil_of (hz z) q) hb hp hn hln)) fun σ H Q ⟨ι, e, h, rl, d, h', eq, K⟩ => ?_
  obtain ⟨dx, h1, e1, eq⟩ := bind_ok eq
  refine ⟨ι, e, h, rl, dx, h1, e1, fun ι1 H1 v1 g1 rl1 r1 => ?_⟩
  cases hv : view dx h1 with
  | none => rw [hv] at eq; cases eq
  | some dv =>
    rw [hv] at eq
    have rv := rl1.view r1 hv
    cases rv <;> first | (cases eq; done) | skip
    rename_i ad c dx' vfs fs hr hfs
    have eq : (match fget fs ms, tb.meth c ms with
      | none, some f => (evs tb Φ l e h1).bind fun ds h => Φ f (dx :: ds) h
      | _, _ => .no) = R.ok d h' := eq
    cases hg : fget fs ms with
    | some _ => rw [hg] at eq; cases eq
    | none =>
      cases hm : tb.meth c ms with
      | none => rw [hg, hm] at eq; cases eq
      | some f =>
        rw [hg, hm] at eq
        obtain ⟨ds, h2, e2, eq⟩ := bind_ok eq
        have hca : S.C.ca = x.ca := by rw [G.C]
        have hK : S.C.K = X.K := by rw [G.C]
        have hlk : vfs.lookup ms = none := by
          rcases hfs.lookup (f := ms) with ⟨_, z⟩ | ⟨d', v, h2, h3, h4⟩
          · exact z
          · have hd' : fs.lookup ms = none := hg
            rw [h2] at hd'; cases hd'
        refine ⟨ad, _, dx', vfs, f, rfl, hr, hlk, ?_, ?_, ?_⟩
        · rw [hca, ← hK]; exact (G.tx.cls c).cl
        · rw [hca, ← hK]; exact G.tx.mt c ms f hm
        · refine ⟨ι1, e, h1, rl1, ds, h2, e2, fun ι2 H2 vs g2 rl2 r2 => ?_⟩
          exact sp_of rl2 (.cons (r1.go g2) r2) (by rw [List.length_cons, r2.length]; exact np _ _ _ _ _ eq) eq fun ι' H' v g rl' r => K ι' H' v (g1.trans (g2.trans g)) rl' r

/-! a[i], with an own class's __getitem__ -/
/-- an own method of an object, called by the machine -/
def rOwn (X : Cx) (C : RC) (x : Tx) (Φ : Nat → List D → MH → R D) (m : Str) (v : V) (vs : List V) (H : Hp) (Q : VK) : Prop := ∃ a Ca dx fs f, v = .ref a ∧ H a = some (.ins Ca dx fs) ∧ Cls X.K Ca ∧ Meth X.K Ca m (x.fa f) ∧ PySem.W.fnIn X.K (x.fa f) = true ∧
  spF C (x.fps f).length (x.frs f) (Φ f) (v :: vs) H Q fun _ _ _ => False
theorem Env0.in1 {P : Program} {w : World} {K : PySem.W.Frag} {mg : Str → Option Value} {base : Heap} {A : Around} {outer : List Env} {s : Shared} {H : Hp} (e : Env0 P w K mg base A outer s H) : Env0 P w K mg base A.in1 outer s H :=
  ⟨e.frames, e.mod, e.bs, e.bsz, e.funs, e.frf, e.hok, e.bare⟩
theorem run_in1 {pins : List (Addr × Obj)} {σ : L2.St} {H : Hp} {s : Shared} {Q : VK} {us : List Value} {vs : List V} {f : Addr} {fd : FuncData} {ps : List Str} {sp : Sp} {k : Nat} (F : FnOk X.prog X.w X.K X.mg X.base cx0 k f fd ps sp) (hr : Room k X.A.in1) (hb : Binds X.K fd ps [])
    (I : Inv X pins σ H s) (r : Vals vs us) (h : sp vs H Q fun _ _ _ => False) : wpAny (model X.prog X.w) X.A.in1 (call (.ref f) us) (EP X pins σ Q) X.xe s := by
  have hl : us.length = ps.length := by rw [← r.length]; exact F.len _ _ _ _ h
  have hb' := hb s us I.kIn (by rw [List.append_nil]; exact hl)
  rw [List.append_nil] at hb'
  refine wpAny_call (codeAny_mono (F.run X.A.in1 X.stack s H ⟨us, []⟩ us vs Q _ hr (Env0.in1 I.env0) hb' r h) fun res s' hq => ?_)
  rcases res with e | fl
  · exact (pass0 (X := X) pins σ H s e s' I hq)
  · cases fl <;> first | exact I.after hq | exact hq.elim
theorem pe_ixO {a b : Expr} {ta tb' : TE} {r : R2} (G : Gd tb Φ x N j S X) (hr : IxR X r) (ha : PE X a ta) (hb : PE X b tb') (hp : plainA b = true) : PE X (.Subscript a b pos) (tOp (fun v w H Q => r v w H Q ∨ rOwn X S.C x Φ "__getitem__" v [w] H Q) ta tb') := by
  have hK : S.C.K = X.K := by rw [G.C]
  refine ⟨fun pins s σ H Q I h => Subscript_ (binT ha hb I h fun v u s2 vx vy H2 I2 rx ry q => ?_)⟩
  rcases q with q | ⟨ad, Ca, dx, fs, f, ex, ea, c, m, hf, q⟩
  · exact hr a b pins s2 σ H2 vx vy v u Q I2 rx ry q (plain_ix hp _ _)
  · subst ex
    obtain rfl : v = Value.ref ad := rx
    obtain ⟨mA, O, _⟩ := ins_get I2.hok ea
    obtain ⟨od, J, _⟩ := O.look
    obtain ⟨mm, F⟩ := I2.fr
    have hbd : Binds X.K (x.fdat f) (x.fps f) [] := by rw [← hK]; exact G.tx.bnd f
    exact PySem.W.sub_K F I2.mod.kin J m.at_ hf m.fn (run_in1 (us := [.ref ad, u]) (vs := [.ref ad, vy]) (G.fn f) G.room.in1 hbd I2 (.cons rfl (.cons ry .nil)) q) (by cases b <;> first | rfl | cases hp)
theorem own_core {ι : List Addr} {e : Ev} {h h' : MH} {σ : L2.St} {H : Hp} {m : Str} {v : V} {vs : List V} {dx d : D} {ds : List D} {c f : Nat} {fs : List (Str × D)} {Q : VK} (G : Gd tb Φ x N j S X) (np : ∀ f ds h d h', Φ f ds h = .ok d h' → ds.length = (x.fps f).length) (rl : Rel S ι e h σ H)
    (r1 : Rep S.C ι (Mu S.M0 ι e σ) H v dx) (hv : view dx h = some (.ins c fs)) (hm : tb.meth c m = some f) (rs : Reps S.C ι (Mu S.M0 ι e σ) H vs ds) (eq : Φ f (dx :: ds) h = .ok d h')
    (K : ∀ ι' H' v, Go ι (Mu S.M0 ι e σ) H ι' (Mu S.M0 ι' e σ) H' → Rel S ι' e h' σ H' → Rep S.C ι' (Mu S.M0 ι' e σ) H' v d → Q v H') : rOwn X S.C x Φ m v vs H (fun v H1 => LockQ (Q v) H1) := by
  have rv := rl.view r1 hv
  cases rv
  rename_i ad dx' vfs hr hfs
  have hca : S.C.ca = x.ca := by rw [G.C]
  have hK : S.C.K = X.K := by rw [G.C]
  refine ⟨ad, _, dx', vfs, f, rfl, hr, ?_, ?_, ?_, ?_⟩
  · rw [hca, ← hK]; exact (G.tx.cls c).cl
  · rw [hca, ← hK]; exact G.tx.mt c m f hm
  · rw [← hK]; exact G.tx.mfn c m f hm
  · exact sp_of rl (.cons r1 rs) (by rw [List.length_cons, rs.length]; exact np _ _ _ _ _ eq) eq K
theorem ownO_core {ι : List Addr} {e : Ev} {h h' : MH} {σ : L2.St} {H : Hp} {m : Str} {v : V} {vs : List V} {xo : Od} {d : D} {ds : List D} {c : Nat} {fs : List (Str × D)} {Q : VK} (G : Gd tb Φ x N j S X) (np : ∀ f ds h d h', Φ f ds h = .ok d h' → ds.length = (x.fps f).length) (rl : Rel S ι e h σ H)
    (r1 : ORep S ι e σ H v xo) (hv : vo e h xo = some (.ins c fs)) (rs : Reps S.C ι (Mu S.M0 ι e σ) H vs ds) (eq : ownR tb Φ c m xo ds h = .ok d h')
    (K : ∀ ι' H' v, Go ι (Mu S.M0 ι e σ) H ι' (Mu S.M0 ι' e σ) H' → Rel S ι' e h' σ H' → Rep S.C ι' (Mu S.M0 ι' e σ) H' v d → Q v H') : rOwn X S.C x Φ m v vs H (fun v H1 => LockQ (Q v) H1) := by
  cases xo with
  | own i => cases eq
  | d o =>
    unfold ownR at eq
    cases hm : tb.meth c m with
    | none => rw [hm] at eq; cases eq
    | some f => rw [hm] at eq; exact own_core G np rl r1 hv hm rs eq K
theorem e_idx (G : Gd tb Φ x N j S X) (np : ∀ f ds h d h', Φ f ds h = .ok d h' → ds.length = (x.fps f).length) (ha : PE X ea (tO tb Φ S a)) (hb : PE X eb (tE tb Φ S b)) (hp : plainA eb = true) : PE X (.Subscript ea eb pos) (tE tb Φ S (.idx a b)) := by
  have bo : IxR X (rIdx S.C idxD) := by rw [G.C]; exact idx_ok G.hu
  refine PE.imp (PE.lock (pe_ixO G bo ha hb hp)) fun σ H Q ⟨ι, e, h, rl, d, h', eq, K⟩ => ?_
  obtain ⟨xo, h1, e1, eq⟩ := bind_ok eq
  obtain ⟨dy, h2, e2, eq⟩ := bind_ok eq
  refine ⟨ι, e, h, rl, xo, h1, e1, fun ι1 H1 v1 g1 rl1 r1 => ⟨ι1, e, h1, rl1, dy, h2, e2, fun ι2 H2 v2 g2 rl2 r2 => ?_⟩⟩
  cases hx : vo e h2 xo with
  | none => rw [hx] at eq; cases eq
  | some dx =>
    rw [hx] at eq
    have plain : MP.R.of (idxD dx dy) h2 = MP.R.ok d h' → rIdx S.C idxD v1 v2 H2 (fun v H1 => LockQ (Q v) H1) := fun eq => by
      obtain ⟨hd, rfl⟩ := of_ok eq
      exact ⟨ι2, _, dx, dy, d, rl2.known, rl2.vo (r1.go g2) hx, r2, hd, fun v r => .done (K ι2 H2 v (g1.trans g2) rl2 r)⟩
    cases dx with
    | ins c fs =>
      have eq : ownR tb Φ c "__getitem__" xo [dy] h2 = MP.R.ok d h' := eq
      exact .inr (ownO_core G np rl2 (r1.go g2) hx (.cons r2 .nil) eq fun ι' H' v g rl' r => K ι' H' v (g1.trans (g2.trans g)) rl' r)
    | _ => exact .inl (plain eq)

/-! built-ins -/
theorem vos_ok {ι : List Addr} {e : Ev} {h : MH} {σ : L2.St} {H : Hp} (rl : Rel S ι e h σ H) : ∀ {vs : List V} {os : List Od} {ds : List D}, OReps S ι e σ H vs os → vos e h os = some ds → VReps S.C ι (Mu S.M0 ι e σ) H vs ds
  | _, _, _, .nil, q => by cases q; exact .nil
  | _, _, _, .cons (x := o) (xs := os) r rs, q => by
    have q' : (match vo e h o, vos e h os with
      | some d, some l => some (d :: l)
      | _, _ => none) = some _ := q
    cases h1 : vo e h o with
    | none => rw [h1] at q'; cases q'
    | some d =>
      cases h2 : vos e h os with
      | none => rw [h1, h2] at q'; cases q'
      | some l => rw [h1, h2] at q'; cases q'; exact .cons (rl.vo r h1) (vos_ok rl rs h2)
theorem glo1_of {n : Str} (h : glo1 x sc y n = true) : y = n ∧ glB sc y = true ∧ x.free n = true := by
  unfold glo1 at h
  rw [Bool.and_eq_true, Bool.and_eq_true] at h
  exact ⟨of_decide_eq_true h.1.1, h.1.2, h.2⟩
theorem blt_core {bl : Blt} {l : Ms} {σ : L2.St} {H : Hp} {Q : VK} (q : tE tb Φ S (.blt bl l) σ H Q) : tCB (rC S.C (bltD bl)) (tOs tb Φ S l) σ H Q := by
  obtain ⟨ι, e, h, rl, d, h', eq, K⟩ := q
  obtain ⟨os, h1, e1, eq⟩ := bind_ok eq
  refine ⟨ι, e, h, rl, os, h1, e1, fun ι1 H1 vs g1 rl1 r1 => ?_⟩
  cases hv : vos e h1 os with
  | none => rw [hv] at eq; cases eq
  | some ds =>
    rw [hv] at eq
    obtain ⟨hd, rfl⟩ := of_ok eq
    exact ⟨ι1, _, ds, d, rl1.known, vos_ok rl1 r1 hv, hd, fun H' v s r => K ι1 H' v (g1.trans (.same s)) (rl1.grow s) r⟩
theorem bltF_core {bl : Blt} {l : Ms} {σ : L2.St} {H : Hp} {Q : VK} (q : tF tb Φ S (.blt bl l) σ H Q) : tCB (rCF S.C (bltD bl)) (tOs tb Φ S l) σ H Q := by
  obtain ⟨ι, e, h, rl, d, h', eq, K⟩ := q
  obtain ⟨os, h1, e1, eq⟩ := bind_ok eq
  refine ⟨ι, e, h, rl, os, h1, e1, fun ι1 H1 vs g1 rl1 r1 => ?_⟩
  cases hv : vos e h1 os with
  | none => rw [hv] at eq; cases eq
  | some ds =>
    rw [hv] at eq
    obtain ⟨hd, rfl⟩ := of_ok eq
    refine ⟨ι1, _, ds, d, rl1.known, vos_ok rl1 r1 hv, hd, fun p o hp c => ?_⟩
    have gn : Go ι1 (Mu S.M0 ι1 e σ) H1 ι1 (Mu (SP1 S p).M0 ι1 e σ) (upd H1 p o) := goNew hp
    exact K ι1 _ p (g1.back hp) (rl1.notin hp) (g1.trans gn) (rl1.plusNew hp) (c _ gn)
theorem e_bltF {bl : Blt} {l : Ms} (G : Gd tb Φ x N j S X) (hs : X.env.scope = sc) (h1 : glo1 x sc y (bltN bl) = true) (hl : PA X (e :: es) (tOs tb Φ S l)) (hp : (e :: es).all plainA = true) (hb : freshBlt bl = true) : PE X (.Call (.Name y p) (e :: es) [] pos) (tF tb Φ S (.blt bl l)) := by
  obtain ⟨rfl, h2, h3⟩ := glo1_of h1
  have h' : (plainA e && es.all plainA) = true := hp
  rw [Bool.and_eq_true] at h'
  have hm := G.tx.fre _ h3
  have hg : Gl X (bltN bl) := glB_of h2 hs
  have hc : CallR X (bltV bl) (rCF S.C (bltD bl)) := by rw [G.C]; exact bltF_ok G.calm bl hb
  refine PE.imp ?_ fun σ H Q q => bltF_core q
  have st := plain_star (env := X.env) (es := es) h'.1
  have pl := plain_any (env := X.env) (pos := pos) h'.2
  cases bl <;> first | (cases hb; done) | skip
  · exact pe_callTy hc hg hm boot_list hl (by decide) (by decide) st pl
  · exact pe_callTy hc hg hm boot_dict hl (by decide) (by decide) st pl
theorem e_blt {bl : Blt} {l : Ms} (G : Gd tb Φ x N j S X) (hs : X.env.scope = sc) (h1 : glo1 x sc y (bltN bl) = true) (hl : PA X (e :: es) (tOs tb Φ S l)) (hp : (e :: es).all plainA = true) : PE X (.Call (.Name y p) (e :: es) [] pos) (tE tb Φ S (.blt bl l)) := by
  by_cases hb : freshBlt bl = true
  · exact PE.ofF (e_bltF G hs h1 hl hp hb)
  have hb : freshBlt bl = false := by simpa using hb
  obtain ⟨rfl, h2, h3⟩ := glo1_of h1
  have h' : (plainA e && es.all plainA) = true := hp
  rw [Bool.and_eq_true] at h'
  have hm := G.tx.fre _ h3
  have hg : Gl X (bltN bl) := glB_of h2 hs
  have hc : CallR X (bltV bl) (rC S.C (bltD bl)) := by rw [G.C]; exact blt_ok G.calm bl hb
  refine PE.imp ?_ fun σ H Q q => blt_core q
  have st := plain_star (env := X.env) (es := es) h'.1
  have pl := plain_any (env := X.env) (pos := pos) h'.2
  cases bl <;> first | (cases hb; done) | skip
  · exact pe_callB hc hg hm boot_len hl (by decide) (by decide) st pl
  · exact pe_callTy hc hg hm boot_int hl (by decide) (by decide) st pl
  · exact pe_callTy hc hg hm boot_tuple hl (by decide) (by decide) st pl
  · exact pe_callB hc hg hm boot_abs hl (by decide) (by decide) st pl
  · exact pe_callB hc hg hm boot_max hl (by decide) (by decide) st pl
  · exact pe_callB hc hg hm boot_min hl (by decide) (by decide) st pl
  · exact pe_callTy hc hg hm boot_str hl (by decide) (by decide) st pl
  · exact pe_callTy hc hg hm boot_bool hl (by decide) (by decide) st pl
  · exact pe_callB hc hg hm boot_all hl (by decide) (by decide) st pl
theorem ty_name {t : Ty} {z : Str} {pz : Pos} (G : Gd tb Φ x N j S X) (hs : X.env.scope = sc) (h1 : tyN x t = some z) (h2 : glB sc z = true) (h3 : dbgOk z = true) (h4 : tyFree x t = true) : PE X (.Name z pz) (tC (tyV x.ca t)) := by
  have hg : Gl X z := glB_of h2 hs
  cases t with
  | cls c => exact pe_glob hg (G.tx.cl c z h1) rfl (dbg1 h3)
  | int => cases h1; exact pe_bltn hg (G.tx.fre _ h4) boot_int rfl (by decide) (by decide)
  | str => cases h1; exact pe_bltn hg (G.tx.fre _ h4) boot_str rfl (by decide) (by decide)
  | bool => cases h1; exact pe_bltn hg (G.tx.fre _ h4) boot_bool rfl (by decide) (by decide)
  | list => cases h1; exact pe_bltn hg (G.tx.fre _ h4) boot_list rfl (by decide) (by decide)
  | tuple => cases h1; exact pe_bltn hg (G.tx.fre _ h4) boot_tuple rfl (by decide) (by decide)
theorem e_isi {t : Ty} {z : Str} {pz : Pos} (G : Gd tb Φ x N j S X) (hs : X.env.scope = sc) (h1 : glo1 x sc y "isinstance" = true) (hp : plainA ea = true) (ha : PE X ea (tO tb Φ S a)) (h5 : tyN x t = some z) (h6 : glB sc z = true) (h7 : dbgOk z = true) (h8 : tyFree x t = true) :
    PE X (.Call (.Name y p) [ea, .Name z pz] [] pos) (tE tb Φ S (.isi a t)) := by
  obtain ⟨rfl, h2, h3⟩ := glo1_of h1
  have hca : S.C.ca = x.ca := by rw [G.C]
  have hK : S.C.K = X.K := by rw [G.C]
  refine PE.imp (pe_callB call_isi (glB_of h2 hs) (G.tx.fre _ h3) boot_isinstance (pa_cons ha (pa_cons (ty_name G hs h5 h6 h7 h8) pa_nil (plain_star (e := .Name z pz) rfl)) (plain_star hp)) (by decide) (by decide) (plain_star hp) (plain_any (es := [.Name z pz]) rfl)) fun σ H Q ⟨ι, e, h, rl, d, h', eq, K⟩ => ?_
  obtain ⟨xo, h1, e1, eq⟩ := bind_ok eq
  refine ⟨ι, e, h, rl, xo, h1, e1, fun ι1 H1 v1 g1 rl1 r1 => ?_⟩
  cases hx : vo e h1 xo with
  | none => rw [hx] at eq; cases eq
  | some dx =>
    rw [hx] at eq
    obtain ⟨hd, rfl⟩ := of_ok eq
    obtain ⟨k, hk, rfl⟩ := Option.map_eq_some_iff.mp hd
    obtain ⟨tv, ty, hki⟩ := tyX_of (fun c => by rw [hca]; exact G.tx.cls c) (by rw [hca]; exact G.tx.ty) (rl1.vo r1 hx) hk
    rw [hK] at ty hki
    rw [hca] at hki
    exact ⟨v1, tyV x.ca t, tv, tyVal x.ca t, k, rfl, tyV_cls _ _, ty, hki, K ι1 H1 _ g1 rl1 (.bl k)⟩
theorem rng_reps {C : RC} {ι : List Addr} {M : Addr → Prop} {H : Hp} (lo hi : Int) : Reps C ι M H (rgV lo hi) (rngL lo hi) := by
  unfold rgV rngL
  induction List.range (hi - lo).toNat with
  | nil => exact .nil
  | cons k r ih => exact .cons (.int _) ih
theorem rng_len (lo hi : Int) : (rngL lo hi).length = (hi - lo).toNat := by unfold rngL; rw [List.length_map, List.length_range]
theorem rngOk_of {i : Int} (h : rngOk i = true) : -(2 ^ 62) ≤ i ∧ i < 2 ^ 62 := by
  have := of_decide_eq_true h
  omega
theorem e_lrng1F {z : Str} {pz p3 : Pos} (G : Gd tb Φ x N j S X) (hs : X.env.scope = sc) (h1 : glo1 x sc y "list" = true) (h2 : glo1 x sc z "range" = true) (hp : plainA ea = true) (ha : PE X ea (tE tb Φ S a)) :
    PE X (.Call (.Name y p) [.Call (.Name z pz) [ea] [] p3] [] pos) (tF tb Φ S (.lrng (.rng a))) := by
  obtain ⟨rfl, h3, h4⟩ := glo1_of h1
  obtain ⟨rfl, h5, h6⟩ := glo1_of h2
  refine PE.imp (pe_listRg G.calm (glB_of h3 hs) (G.tx.fre _ h4) (prg_1 (glB_of h5 hs) (G.tx.fre _ h6) ha (plain_star hp)) (plain_star (e := .Call (.Name "range" pz) [ea] [] p3) rfl)) fun σ H Q ⟨ι, e, h, rl, d, h', eq, K⟩ => ?_
  obtain ⟨ds, h1, e1, eq⟩ := bind_ok eq
  obtain ⟨dx, h2, e2, e1⟩ := bind_ok e1
  refine ⟨ι, e, h, rl, dx, h2, e2, fun ι1 H1 v1 g1 rl1 r1 => ?_⟩
  cases r1 <;> first | (cases e1; done) | skip
  rename_i i
  obtain ⟨hc, e1⟩ := ite_ok (show (if rngOk i then R.ok (rngL 0 i) h2 else .no) = R.ok ds h1 from e1)
  cases e1
  obtain ⟨hc2, eq⟩ := ite_ok eq
  cases eq
  obtain ⟨b1, b2⟩ := rngOk_of hc
  have hl : lim = 10000000 := rfl
  refine ⟨i, rfl, ⟨by omega, by omega, b1, b2, ?_⟩, fun p hp => K ι1 _ p ((g1).back hp) (rl1.notin hp) ((g1).trans (goNew hp)) (rl1.plusNew hp) (.lst upd_same (rng_reps 0 i))⟩
  rw [rng_len] at hc2
  omega
theorem e_lrng2F {z : Str} {pz p3 : Pos} (G : Gd tb Φ x N j S X) (hs : X.env.scope = sc) (h1 : glo1 x sc y "list" = true) (h2 : glo1 x sc z "range" = true) (hp : plainA ea = true) (hp2 : plainA eb = true) (ha : PE X ea (tE tb Φ S a)) (hb : PE X eb (tE tb Φ S b)) :
    PE X (.Call (.Name y p) [.Call (.Name z pz) [ea, eb] [] p3] [] pos) (tF tb Φ S (.lrng (.rng2 a b))) := by
  obtain ⟨rfl, h3, h4⟩ := glo1_of h1
  obtain ⟨rfl, h5, h6⟩ := glo1_of h2
  refine PE.imp (pe_listRg G.calm (glB_of h3 hs) (G.tx.fre _ h4) (prg_2 (glB_of h5 hs) (G.tx.fre _ h6) ha hb (plain_star hp) (plain_star hp2) (plain_any (es := [eb]) (by simp [hp2]))) (plain_star (e := .Call (.Name "range" pz) [ea, eb] [] p3) rfl)) fun σ H Q ⟨ι, e, h, rl, d, h', eq, K⟩ => ?_
  obtain ⟨ds, h1, e1, eq⟩ := bind_ok eq
  obtain ⟨dx, h2, e2, e4⟩ := bind_ok e1
  obtain ⟨dy, h3, e3, e5⟩ := bind_ok e4
  clear e1 e4
  refine ⟨ι, e, h, rl, dx, h2, e2, fun ι1 H1 v1 g1 rl1 r1 => ⟨ι1, e, h2, rl1, dy, h3, e3, fun ι2 H2 v2 g2 rl2 r2 => ?_⟩⟩
  cases r1 <;> first | (cases e5; done) | skip
  cases r2 <;> first | (cases e5; done) | skip
  rename_i i k
  obtain ⟨hc, e1⟩ := ite_ok (show (if (rngOk i && rngOk k) = true then R.ok (rngL i k) h3 else .no) = R.ok ds h1 from e5)
  cases e1
  obtain ⟨hc2, eq⟩ := ite_ok eq
  cases eq
  rw [Bool.and_eq_true] at hc
  obtain ⟨b1, b2⟩ := rngOk_of hc.1
  obtain ⟨b3, b4⟩ := rngOk_of hc.2
  have hl : lim = 10000000 := rfl
  refine ⟨i, k, rfl, rfl, ⟨b1, b2, b3, b4, ?_⟩, fun p hp => K ι2 _ p (((g1.trans g2)).back hp) (rl2.notin hp) (((g1.trans g2)).trans (goNew hp)) (rl2.plusNew hp) (.lst upd_same (rng_reps i k))⟩
  rw [rng_len] at hc2
  omega

/-! tests -/
theorem t_val (G : Gd tb Φ x N j S X) (ha : PE X ea (tO tb Φ S a)) (hp : testP ea = true) : PT X ea (tT tb Φ S (.v a)) := by
  refine PT.imp (pt_truth ha (test_plain hp)) fun σ H Q ⟨ι, e, h, rl, t, h', eq, K⟩ => ?_
  obtain ⟨xo, h1, e1, eq⟩ := bind_ok eq
  obtain ⟨eq, rfl⟩ := of_ok eq
  obtain ⟨dx, hx, ht⟩ := Option.bind_eq_some_iff.mp eq
  refine ⟨ι, e, h, rl, xo, h', e1, fun ι1 H1 v1 g1 rl1 r1 => ⟨t, ?_, K ι1 H1 g1 rl1⟩⟩
  have hK : S.C.K = X.K := by rw [G.C]
  rw [← hK]
  exact (rl1.vo r1 hx).tru ht
theorem t_and {ta tc : T} {rest : List Expr} (ha : PT X ea (tT tb Φ S ta)) (hb : PW X (.BoolOp .And (eb :: rest) pos) (tT tb Φ S tc)) : PW X (.BoolOp .And (ea :: eb :: rest) pos) (tT tb Φ S (.and ta tc)) := by
  refine ⟨fun wh pins s σ H Q I ⟨ι, e, h, rl, t, h', eq, K⟩ => (pw_and ha hb).run wh pins s σ H Q I ?_⟩
  obtain ⟨dx, h1, e1, eq⟩ := bind_ok eq
  refine ⟨ι, e, h, rl, dx, h1, e1, fun ι1 H1 g1 rl1 => ?_⟩
  cases dx with
  | true => exact ⟨ι1, e, h1, rl1, t, h', eq, fun ι2 H2 g2 rl2 => K ι2 H2 (g1.trans g2) rl2⟩
  | false => cases eq; exact K ι1 H1 g1 rl1
theorem t_or {ta tc : T} {rest : List Expr} (ha : PT X ea (tT tb Φ S ta)) (hb : PW X (.BoolOp .Or (eb :: rest) pos) (tT tb Φ S tc)) : PW X (.BoolOp .Or (ea :: eb :: rest) pos) (tT tb Φ S (.or ta tc)) := by
  refine ⟨fun wh pins s σ H Q I ⟨ι, e, h, rl, t, h', eq, K⟩ => (pw_or ha hb).run wh pins s σ H Q I ?_⟩
  obtain ⟨dx, h1, e1, eq⟩ := bind_ok eq
  refine ⟨ι, e, h, rl, dx, h1, e1, fun ι1 H1 g1 rl1 => ?_⟩
  cases dx with
  | true => cases eq; exact K ι1 H1 g1 rl1
  | false => exact ⟨ι1, e, h1, rl1, t, h', eq, fun ι2 H2 g2 rl2 => K ι2 H2 (g1.trans g2) rl2⟩
theorem t_not {ta : T} (ha : PT X ea (tT tb Φ S ta)) : PT X (.UnaryOp .Not ea pos) (tT tb Φ S (.not ta)) := by
  refine PT.imp (pt_not ha) fun σ H Q ⟨ι, e, h, rl, t, h', eq, K⟩ => ?_
  obtain ⟨dx, h1, e1, eq⟩ := bind_ok eq
  cases eq
  exact ⟨ι, e, h, rl, dx, _, e1, fun ι1 H1 g1 rl1 => K ι1 H1 g1 rl1⟩
def tCs (tb : Tb) (Φ : Nat → List D → MH → R D) (S : SC) (cs : Ts) : TT := fun σ H Q => ∃ ι e h, Rel S ι e h σ H ∧ OutP S e σ (evC tb Φ cs e h) ι H Q
theorem c_nil : PTs X [] (tCs tb Φ S .nil) := PTs.imp pts_nil fun σ H Q ⟨ι, e, h, rl, t, h', eq, K⟩ => by
  cases eq
  exact K ι H .refl rl
theorem c_one {ta : T} (ha : PT X ea (tT tb Φ S ta)) : PTs X [ea] (tCs tb Φ S (.cons ta .nil)) := PTs.imp (pts_one ha) fun σ H Q ⟨ι, e, h, rl, t, h', eq, K⟩ => by
  obtain ⟨dx, h1, e1, eq⟩ := bind_ok eq
  refine ⟨ι, e, h, rl, dx, h1, e1, fun ι1 H1 g1 rl1 => ?_⟩
  cases dx <;> (cases eq; exact K ι1 H1 g1 rl1)
end
end MP

set_option maxRecDepth 100000
set_option maxHeartbeats 1000000
/-! MP13b: methods of built-in objects. -/
namespace MP
open PySem PySem.Spec PyProof.Rows L2

section
variable {X : Cx} {ca : Nat → Addr} {pins : List (Addr × Obj)} {σ : L2.St} {s : Shared} {ι : List Addr} {M : Addr → Prop} {H : Hp}
theorem vty {T : String} {x : V} {d : D} {v : Value} (I : Inv X pins σ H s) (r : VRep (cx X ca) ι M H x d) (rx : RelV x v) (kt : kindT d = some T) : s.TypeIs v T ∧ ∀ a, v = .ref a → ∃ ob, s.heap.get? a = some ob ∧ ob.dict = none := by
  cases r with
  | str z => obtain ⟨t, rfl⟩ := rx; cases kt; exact ⟨typeIs_str s z t, fun _ e => nomatch e⟩
  | @lst a vs ds h r =>
    cases rx; cases kt
    obtain ⟨its, rv, ⟨o, n, e, hc, hd, hs⟩, _⟩ := I.list (SqL.of h)
    exact ⟨⟨o, e, hc⟩, fun b z => by cases z; exact ⟨o, e, hd⟩⟩
  | @tup a vs ds h r =>
    cases rx; cases kt
    rcases h with ⟨_, o, h, hd⟩ | ⟨o, its, n, h1, hd, h2, _⟩
    · obtain ⟨e, _, _, _, o', e', hc, _⟩ := (show ObjOk X.prog X.w H s.heap a (.frz o (.tup vs)) from I.hok a _ h)
      rw [e] at e'
      cases e'
      exact ⟨⟨o, e, hc⟩, fun b z => by cases z; exact ⟨o, e, hd⟩⟩
    · have e := I.kIn a o h1
      exact ⟨⟨o, e, h2⟩, fun b z => by cases z; exact ⟨o, e, hd⟩⟩
  | dctK h r => cases rx; cases kt; have q := dct_type I (.dctK h r); exact ⟨q.1, fun b z => by cases z; exact q.2⟩
  | dctT h r => cases rx; cases kt; have q := dct_type I (.dctT h r); exact ⟨q.1, fun b z => by cases z; exact q.2⟩
  | dctG h r => cases rx; cases kt; have q := dct_type I (.dctG h r); exact ⟨q.1, fun b z => by cases z; exact q.2⟩
  | _ => cases kt
end
section
variable {X : Cx} {ca : Nat → Addr} {o e : Expr} {es : List Expr} {to : TE} {t : TA} {name : Str} {apos cpos : Pos} {T id : String} {r : V → List V → Hp → VK → Prop}
def tBX (X : Cx) (ca : Nat → Addr) (T : String) (r : V → List V → Hp → VK → Prop) (to : TE) (t : TA) : TE := fun σ H Q => to σ H fun x H1 => (∃ ι M d, VRep (cx X ca) ι M H1 x d ∧ kindT d = some T) ∧ t σ H1 fun xs H2 => r x xs H2 Q
theorem pe_bmX (pa : PlainAttrs T) (slot : _root_.PySem.Slot T name id) (hty : typeOf (.builtin id) = pure (.type "method_descriptor")) (hm : MtR X id r) (ho : PE X o to) (ha : PA X (e :: es) t) (hb : baseP o = true) (hp : (e :: es).all plainA = true) (hl : (e :: es).length < 30) (hn : (apos.endLine == cpos.line) = true) :
    PE X (.Call (.Attribute o name apos) (e :: es) [] cpos) (tBX X ca T r to t) := by
  have h' : (plainA e && es.all plainA) = true := hp
  rw [Bool.and_eq_true] at h'
  have st := plain_star (env := X.env) (es := es) h'.1
  have pl := plain_any (env := X.env) (pos := cpos) h'.2
  have hfew : ((backTo cpos (starEach (e :: es) X.env)).all (fun x => !x.1) && (backToKw cpos (keywordEach [] X.env)).all (fun x => x.1.isSome)
      && decide ((e :: es).length + ([] : List Keyword).length + (if ([] : List Keyword).isEmpty then 0 else 1) < 30)) = true := by
    have e1 : (backTo cpos (starEach (e :: es) X.env)).all (fun x => !x.1) = true := by
      rw [plain_all hp]
      unfold backTo
      simp
    have e2 : (e :: es).length + ([] : List Keyword).length + (if ([] : List Keyword).isEmpty then 0 else 1) < 30 := by simpa using hl
    rw [e1, decide_eq_true e2]
    rfl
  refine ⟨fun pins s σ H Q I h => wpAny_Call_method_late (base_plain hb) hfew hn rfl (thn (ho.run pins s σ H _ I h) fun v s1 ⟨x, H1, I1, r1, ⟨ι, M, d, rv, kt⟩, q1⟩ => ?_)⟩
  obtain ⟨h1, h2⟩ := vty I1 rv r1 kt
  refine ⟨T, id, pa, slot, hty, h1, h2, ?_⟩
  have hA := ha.run cpos pins s1 σ H1 _ I1 q1
  rw [st] at hA ⊢
  refine Calls.callWith_builtin (by show (false || (backTo cpos (starEach es X.env)).any (·.1)) = false; rw [pl]; rfl) (Calls.evalArgs_plain (thn hA fun us s2 ⟨vs, H2, I2, r2, q2⟩ => hm pins s2 σ H2 x vs v us Q I2 r1 r2 q2))
def rBm (C : RC) (f : D → List D → Option D) : V → List V → Hp → VK → Prop := fun x xs H Q => ∃ ι M dx ds d, Known M H ∧ VRep C ι M H x dx ∧ Reps C ι M H xs ds ∧ f dx ds = some d ∧ ∀ H' v, Same H H' → Rep C ι M H' v d → Q v H'
theorem bm_get (hu : X.A.units + 65 < cLine) : MtR X "dict.get" (rBm (cx X ca) (bmD .get)) := by
  intro pins s σ H x xs v us Q I rx rs ⟨ι, M, dx, ds, d, k, rv, rr, e, q⟩
  cases rr with
  | nil => cases dx <;> cases e
  | cons r1 rr =>
    cases rr with
    | nil => cases dx <;> cases e
    | cons r2 rr =>
      cases rr with
      | cons r3 rr => cases dx <;> cases e
      | nil =>
        rename_i vk dk vd dd
        cases dx <;> first | (cases e; done) | skip
        rename_i l
        have e' : (if kfit l dk then some ((dget l dk).getD dd) else none) = some d := e
        split at e'
        · rename_i f
          cases e'
          obtain ⟨uk, t1, rfl, rk, rt⟩ : ∃ uk t, us = uk :: t ∧ RelV vk uk ∧ Vals [vd] t := by cases rs with | cons a b => exact ⟨_, _, rfl, a, b⟩
          obtain ⟨ud, rfl, rd⟩ := vals1 rt
          obtain ⟨a, rfl⟩ : ∃ a, x = .ref a := by cases rv <;> exact ⟨_, rfl⟩
          cases rx
          rcases dct_key I rv r1 rk f with ⟨key, kvs, rfl, rfl, ⟨hd, z, vs, rel, ddd⟩, rks⟩ | ⟨key, b, ll, rfl, t, rfl, rfl, hk, ⟨hd, z, ws, rel, ddd⟩, rts⟩
          · refine call_meetsIn PySem.F.slot_dict_get ddd.typeIs PySem.F.entry_dict_get (PySem.F.args_dict_get_3 _ _ _) (meets_dict_get_default (mixKind X.prog X.w) a (kV_is rk) hd ud) ⟨_, ddd.mapOf, ?_⟩
            cases hg : dget l (kD key) with
            | none =>
              rw [hg] at q
              have h0 := (rks.get key).2 hg
              have h1 : valueAt vs key = none := RelO.none_of (by rw [← h0]; exact rel.val key)
              rw [h1]
              exact ⟨vd, H, I.tok _, rd, q _ _ Same.rfl' r2⟩
            | some dv =>
              rw [hg] at q
              obtain ⟨v', hv, rv'⟩ := (rks.get key).1 dv hg
              obtain ⟨w', hw, rw'⟩ := RelO.some_of (v := v') (o := valueAt vs key) (by rw [← hv]; exact rel.val key)
              rw [hw]
              exact ⟨v', H, I.tok _, rw', q _ _ Same.rfl' rv'⟩
          · refine call_meetsIn PySem.F.slot_dict_get ddd.typeIs PySem.F.entry_dict_get (PySem.F.args_dict_get_3 _ _ _) (meetsH_dict_get_default (nestedKind X.prog X.w) a b hd ud) ⟨room_nest (A := X.A) (by omega), key, ws, hk, ddd, ?_⟩
            cases hg : dget l (nkD key) with
            | none =>
              rw [hg] at q
              have h0 := (rts.get key).2 hg
              have h1 : (atKey ws key).map (·.2) = none := RelO.none_of (by rw [← h0]; exact SameT.val rel)
              rw [h1]
              exact ⟨vd, H, I.tok _, rd, q _ _ Same.rfl' r2⟩
            | some dv =>
              rw [hg] at q
              obtain ⟨v', hv, rv'⟩ := (rts.get key).1 dv hg
              obtain ⟨w', hw, rw'⟩ := RelO.some_of (v := v') (o := (atKey ws key).map (·.2)) (by rw [← hv]; exact SameT.val rel)
              rw [hw]
              exact ⟨v', H, I.tok _, rw', q _ _ Same.rfl' rv'⟩
        · cases e'
theorem bm_index (hu : X.A.units + 65 < cLine) : MtR X "list.index" (rBm (cx X ca) (bmD .lindex)) := by
  intro pins s σ H x xs v us Q I rx rs ⟨ι, M, dx, ds, d, k, rv, rr, e, q⟩
  cases rr with
  | nil => cases dx <;> cases e
  | cons r1 rr =>
    cases rr with
    | cons r2 rr => cases dx <;> cases e
    | nil =>
      rename_i vk dk
      cases dx <;> first | (cases e; done) | skip
      rename_i l
      obtain ⟨j, ej, rfl⟩ := Option.map_eq_some_iff.mp (show (indexD l dk).map (fun j : Nat => D.int j) = some d from e)
      have ej' : (if fit dk 60 && fitL l 60 then l.findIdx? (fun z => eqD z dk) else none) = some j := ej
      split at ej'
      · rename_i hc
        obtain ⟨f1, f2⟩ := Bool.and_eq_true_iff.mp hc
        obtain ⟨a, rfl⟩ : ∃ a, x = .ref a := by cases rv <;> exact ⟨_, rfl⟩
        obtain ⟨hj, hz, hno⟩ := List.findIdx?_eq_some_iff_getElem.mp ej'
        have dpl : Dp X.K H (.ref a) (.list (pdL l)) := rv.dp (k := 61) (by exact f2)
        refine mt_indexD hu pins s σ H _ _ v us Q I rx rs ⟨a, vk, dk.pd, pdL l, j, l[j].pd, rfl, rfl, dpl, r1.dp f1, fit_shaped (d := .lst l) (k := 61) f2 (by decide), fit_shaped f1 (by decide), ?_, ?_, fun m z' hm hz' => ?_, q _ _ Same.rfl' (.int _)⟩
        · rw [pdL_map, List.getElem?_map, List.getElem?_eq_getElem hj]; rfl
        · rw [eqv_eqD l[j] dk 60 60 (fitL_get f2 hj) f1]; exact hz
        · have hml : m < l.length := by omega
          rw [pdL_map, List.getElem?_map, List.getElem?_eq_getElem hml] at hz'
          cases hz'
          rw [eqv_eqD l[m] dk 60 60 (fitL_get f2 hml) f1]
          simpa using hno m hm
      · cases ej'
theorem strs_of {C : RC} {ι : List Addr} {M : Addr → Prop} {H : Hp} : ∀ {ds : List D} {vs : List V}, Reps C ι M H vs ds → ds.all isStrD = true → ∃ ys : List Str, vs = ys.map V.str ∧ ds = ys.map D.str
  | _, _, .nil, _ => ⟨[], rfl, rfl⟩
  | _, _, .cons h r, f => by
    rw [List.all_cons, Bool.and_eq_true] at f
    obtain ⟨ys, h1, h2⟩ := strs_of r f.2
    cases h <;> first | (cases f.1; done) | skip
    rename_i z
    exact ⟨z :: ys, by rw [h1]; rfl, by rw [h2]; rfl⟩
theorem bm_tindex : MtR X "tuple.index" (rBm (cx X ca) (bmD .tindex)) := by
  intro pins s σ H x xs v us Q I rx rs ⟨ι, M, dx, ds, d, k, rv, rr, e, q⟩
  cases rr with
  | nil => cases dx <;> cases e
  | cons r1 rr =>
    cases rr with
    | cons r2 rr => rename_i dk _ _ _ _; cases dx <;> cases dk <;> cases e
    | nil =>
      rename_i vk dk
      cases dx <;> first | (cases dk <;> cases e; done) | skip
      rename_i l
      cases r1 <;> first | (cases e; done) | skip
      rename_i z
      have e' : (if l.all isStrD then (l.findIdx? fun w => eqD w (.str z)).map fun (j : Nat) => D.int j else none) = some d := e
      split at e'
      · rename_i hs
        obtain ⟨j, ej, rfl⟩ := Option.map_eq_some_iff.mp e'
        cases rv with
        | @tup a vs ds h r =>
          obtain ⟨ys, rfl, rfl⟩ := strs_of r hs
          obtain ⟨hj, hz, hno⟩ := List.findIdx?_eq_some_iff_getElem.mp ej
          have hj' : j < ys.length := by simpa using hj
          have eq1 : ys[j] = z := by
            have : eqD (.str ys[j]) (.str z) = true := by simpa using hz
            exact of_decide_eq_true this
          refine mt_tup_index pins s σ H _ _ v us Q I rx rs ⟨a, ys, z, j, rfl, rfl, h.sq, by rw [List.getElem?_eq_getElem hj', eq1], fun m hm w => ?_, q _ _ Same.rfl' (.int _)⟩
          have hm' : m < ys.length := by omega
          rw [List.getElem?_eq_getElem hm'] at w
          have n := hno m hm
          have : eqD (.str ys[m]) (.str z) = true := decide_eq_true (Option.some.inj w)
          simp [eqD, Option.some.inj w] at n
      · cases e'
theorem bm_count (hu : X.A.units + 65 < cLine) : MtR X "list.count" (rBm (cx X ca) (bmD .lcount)) := by
  intro pins s σ H x xs v us Q I rx rs ⟨ι, M, dx, ds, d, k, rv, rr, e, q⟩
  cases rr with
  | nil => cases dx <;> cases e
  | cons r1 rr =>
    cases rr with
    | cons r2 rr => cases dx <;> cases e
    | nil =>
      rename_i vk dk
      cases dx <;> first | (cases e; done) | skip
      rename_i l
      have e' : (if fit dk 60 && fitL l 60 then some (D.int (l.countP fun z => eqD z dk)) else none) = some d := e
      split at e'
      · rename_i hc
        cases e'
        obtain ⟨f1, f2⟩ := Bool.and_eq_true_iff.mp hc
        obtain ⟨uk, rfl, rk⟩ := vals1 rs
        cases rv with
        | @lst a vs ds h r =>
          cases rx
          obtain ⟨its, rv, ⟨⟨cls, dd, data, sls⟩, n, ho, hc1, hdn, hdt⟩, hlen⟩ := I.list (SqL.of h)
          simp only at hc1 hdt
          subst hc1 hdt
          have sl : SeqAt.shaped (.list (pdL l)) = true := fit_shaped (d := .lst l) (k := 61) f2 (by decide)
          have sd : SeqAt.shaped dk.pd = true := fit_shaped f1 (by decide)
          have hxs : PyData.canLayAll0 (pdL l) = true := SeqAt.canLay_of_shaped sl
          obtain ⟨bs, q1⟩ := Dp.reads I dk.pd vk uk (r1.dp f1) rk
          obtain ⟨as, q2⟩ := Dp.readsAll I (pdL l) _ its (r.dp f2) rv
          have hmap := SeqAt.readsAll_map _ its as hxs q2
          have hroom : X.A.units + 1 + min (PyData.depthAll (pdL l)) dk.pd.depth < cLine := room_in_shaped sd hu
          refine call_meets PySem.F.slot_list_count ⟨_, ho, rfl⟩ PySem.F.entry_list_count (PySem.F.args_list_count_2 _ _) (SeqAt.list_countAt a its.toArray n dd sls uk (fun u => PyData.eqv (SeqAt.readOf s.heap u) dk.pd))
            ⟨ho, SeqAt.items_eqAt (vs := its.toArray) (show ReadsAll s.heap its.toArray.toList (pdL l) as from q2) q1 hxs (SeqAt.canLay_of_shaped sd) hroom, ?_⟩
          have ec : its.toArray.toList.countP (fun u => PyData.eqv (SeqAt.readOf s.heap u) dk.pd) = l.countP fun z => eqD z dk := by
            have e1 : its.countP (fun u => PyData.eqv (SeqAt.readOf s.heap u) dk.pd) = (its.map (SeqAt.readOf s.heap)).countP fun u => PyData.eqv u dk.pd := by rw [List.countP_map]; rfl
            have e2 : ∀ {l : List D}, fitL l 60 = true → (pdL l).countP (fun u => PyData.eqv u dk.pd) = l.countP fun z => eqD z dk := by
              intro l
              induction l with
              | nil => intro _; rfl
              | cons a r ih =>
                intro f
                obtain ⟨g1, g2⟩ := Bool.and_eq_true_iff.mp (show (fit a 60 && fitL r 60) = true from f)
                show (a.pd :: pdL r).countP _ = _
                rw [List.countP_cons, List.countP_cons, ih g2, eqv_eqD a dk 60 60 g1 f1]
            show its.countP _ = _
            rw [e1, hmap, e2 f2]
          rw [ec]
          exact ⟨.int _, H, I.tok _, ⟨_, rfl⟩, q _ _ Same.rfl' (.int _)⟩
      · cases e'
end

section
variable {tb : Tb} {Φ : Nat → List D → MH → R D} {x : Tx} {N : List Str} {j : Nat} {S : SC} {X : Cx} {e eo : Expr} {es : List Expr} {o : M} {l : Ms} {apos cpos : Pos}
theorem bm_core {b : Bmt} {σ : L2.St} {H : Hp} {Q : VK} (G : Gd tb Φ x N j S X) (q : tE tb Φ S (.bm b o l) σ H Q) : tBX X x.ca (bmK b) (rBm (cx X x.ca) (bmD b)) (tO tb Φ S o) (tEs tb Φ S l) σ H Q := by
  obtain ⟨ι, e, h, rl, d, h', eq, K⟩ := q
  obtain ⟨xo, h1, e1, eq⟩ := bind_ok eq
  refine ⟨ι, e, h, rl, xo, h1, e1, fun ι1 H1 v1 g1 rl1 r1 => ?_⟩
  cases hv : vo e h1 xo with
  | none => rw [hv] at eq; cases eq
  | some d0 =>
    rw [hv] at eq
    obtain ⟨hk, eq⟩ := ite_ok eq
    obtain ⟨ds, h2, e2, eq⟩ := bind_ok eq
    refine ⟨⟨ι1, _, d0, by rw [← G.C]; exact rl1.vo r1 hv, of_decide_eq_true hk⟩, ι1, e, h1, rl1, ds, h2, e2, fun ι2 H2 vs g2 rl2 r2 => ?_⟩
    cases hv2 : vo e h2 xo with
    | none => rw [hv2] at eq; cases eq
    | some dx =>
      rw [hv2] at eq
      obtain ⟨hd, rfl⟩ := of_ok eq
      rw [← G.C]
      exact ⟨ι2, _, dx, ds, d, rl2.known, rl2.vo (r1.go g2) hv2, r2, hd, fun H' v s r => K ι2 H' v (g1.trans (g2.trans (.same s))) (rl2.grow s) r⟩
theorem e_bm {b : Bmt} (G : Gd tb Φ x N j S X) (ho : PE X eo (tO tb Φ S o)) (hl : PA X (e :: es) (tEs tb Φ S l)) (hb : baseP eo = true) (hp : (e :: es).all plainA = true) (hz : (e :: es).length < 30) (hn : (apos.endLine == cpos.line) = true) (hd : bmDone b = true) :
    PE X (.Call (.Attribute eo (bmN b) apos) (e :: es) [] cpos) (tE tb Φ S (.bm b o l)) := by
  refine PE.imp ?_ fun σ H Q q => bm_core G q
  cases b <;> first | (cases hd; done) | skip
  · exact pe_bmX F.plainAttrs_list F.slot_list_index F.type_list_index (bm_index G.hu) ho hl hb hp hz hn
  · exact pe_bmX F.plainAttrs_tuple F.slot_tuple_index F.type_tuple_index bm_tindex ho hl hb hp hz hn
  · exact pe_bmX F.plainAttrs_list F.slot_list_count F.type_list_count (bm_count G.hu) ho hl hb hp hz hn
  · exact pe_bmX F.plainAttrs_dict F.slot_dict_get F.type_dict_get (bm_get G.hu) ho hl hb hp hz hn
end
end MP

set_option maxRecDepth 100000
set_option maxHeartbeats 1000000
/-! MP14: instances are made. -/
namespace MP
open PySem PySem.Spec PyProof.Rows L2

theorem and3 {a b c : Bool} (h : (a && b && c) = true) : a = true ∧ b = true ∧ c = true := by
  rw [Bool.and_eq_true, Bool.and_eq_true] at h
  exact ⟨h.1.1, h.1.2, h.2⟩
theorem and2 {a b : Bool} (h : (a && b) = true) : a = true ∧ b = true := by
  rw [Bool.and_eq_true] at h
  exact h
section
variable {C : RC} {ι ι1 : List Addr} {M M1 : Addr → Prop} {H : Hp} {n : Nat}
mutual
theorem Rep.low (hn : ∀ k, k < n → ι[k]? = ι1[k]?) (hm : ∀ a, M1 a → M a) : ∀ {d : D} {v : V}, Rep C ι M H v d → MP.low n d = true → Rep C ι1 M1 H v d
  | _, _, .non, _ => .non
  | _, _, .bl b, _ => .bl b
  | _, _, .int i, _ => .int i
  | _, _, .str x, _ => .str x
  | .tup ds, _, .tup h r, q => .tup (h.go (Go.less hm (ι := ι))) (Reps.low hn hm r (show lowL n ds = true from q))
  | .lst ds, _, .lst m h r, q => .lst (fun z => m (hm _ z)) h (Reps.low hn hm r (show lowL n ds = true from q))
  | .scr ds, _, .scr h r, q => .scr (h.go (Go.less hm (ι := ι))) (Reps.low hn hm r (show lowL n ds = true from q))
  | .dct ds, _, .dctK m h r, q => .dctK (fun z => m (hm _ z)) h (RepKs.low hn hm r (show lowK n ds = true from q))
  | .dct ds, _, .dctT m h r, q => .dctT (fun z => m (hm _ z)) h (RepTs.low hn hm r (show lowK n ds = true from q))
  | .dct ds, _, .dctG h r, q => .dctG h (RepGs.low hn hm r (show lowK n ds = true from q))
  | .ins c fs, _, .ins m h r, q => .ins (fun z => m (hm _ z)) h (RepFs.low hn hm r (show lowF n fs = true from q))
  | .ref k, _, .ref h, q => .ref (by rw [← hn k (of_decide_eq_true q)]; exact h)
theorem Reps.low (hn : ∀ k, k < n → ι[k]? = ι1[k]?) (hm : ∀ a, M1 a → M a) : ∀ {ds : List D} {vs : List V}, Reps C ι M H vs ds → lowL n ds = true → Reps C ι1 M1 H vs ds
  | _, _, .nil, _ => .nil
  | d :: ds, _, .cons h r, q => .cons (Rep.low hn hm h (and2 q).1) (Reps.low hn hm r (and2 q).2)
theorem RepKs.low (hn : ∀ k, k < n → ι[k]? = ι1[k]?) (hm : ∀ a, M1 a → M a) : ∀ {ds : List (D × D)} {vs : List (Key × V)}, RepKs C ι M H vs ds → lowK n ds = true → RepKs C ι1 M1 H vs ds
  | _, _, .nil, _ => .nil
  | _, _, .cons h r, q => .cons (Rep.low hn hm h (and3 q).2.1) (RepKs.low hn hm r (and3 q).2.2)
theorem RepTs.low (hn : ∀ k, k < n → ι[k]? = ι1[k]?) (hm : ∀ a, M1 a → M a) : ∀ {ds : List (D × D)} {vs : List (NestedKey × Addr × V)}, RepTs C ι M H vs ds → lowK n ds = true → RepTs C ι1 M1 H vs ds
  | _, _, .nil, _ => .nil
  | _, _, .cons t h0 h r, q => .cons t (Rep.low hn hm h0 (and3 q).1) (Rep.low hn hm h (and3 q).2.1) (RepTs.low hn hm r (and3 q).2.2)
theorem RepGs.low (hn : ∀ k, k < n → ι[k]? = ι1[k]?) (hm : ∀ a, M1 a → M a) : ∀ {ds : List (D × D)} {vs : List (Str × V)}, RepGs C ι M H vs ds → lowK n ds = true → RepGs C ι1 M1 H vs ds
  | _, _, .nil, _ => .nil
  | _, _, .cons h r, q => .cons (Rep.low hn hm h (and3 q).2.1) (RepGs.low hn hm r (and3 q).2.2)
theorem RepFs.low (hn : ∀ k, k < n → ι[k]? = ι1[k]?) (hm : ∀ a, M1 a → M a) : ∀ {ds : List (Str × D)} {vs : List (Str × V)}, RepFs C ι M H vs ds → lowF n ds = true → RepFs C ι1 M1 H vs ds
  | _, _, .nil, _ => .nil
  | _, _, .cons h r, q => .cons (Rep.low hn hm h (and2 q).1) (RepFs.low hn hm r (and2 q).2)
end
mutual
theorem Rep.wide (hn : ∀ (k : Nat) (a : Addr), ι[k]? = some a → ι1[k]? = some a) (hm : ∀ a, M1 a → M a) : ∀ {d : D} {v : V}, Rep C ι M H v d → Rep C ι1 M1 H v d
  | _, _, .non => .non
  | _, _, .bl b => .bl b
  | _, _, .int i => .int i
  | _, _, .str x => .str x
  | _, _, .tup h r => .tup (h.go (Go.less hm (ι := ι))) (Reps.wide hn hm r)
  | _, _, .lst m h r => .lst (fun z => m (hm _ z)) h (Reps.wide hn hm r)
  | _, _, .scr h r => .scr (h.go (Go.less hm (ι := ι))) (Reps.wide hn hm r)
  | _, _, .dctK m h r => .dctK (fun z => m (hm _ z)) h (RepKs.wide hn hm r)
  | _, _, .dctT m h r => .dctT (fun z => m (hm _ z)) h (RepTs.wide hn hm r)
  | _, _, .dctG h r => .dctG h (RepGs.wide hn hm r)
  | _, _, .ins m h r => .ins (fun z => m (hm _ z)) h (RepFs.wide hn hm r)
  | _, _, .ref h => .ref (hn _ _ h)
theorem Reps.wide (hn : ∀ (k : Nat) (a : Addr), ι[k]? = some a → ι1[k]? = some a) (hm : ∀ a, M1 a → M a) : ∀ {ds : List D} {vs : List V}, Reps C ι M H vs ds → Reps C ι1 M1 H vs ds
  | _, _, .nil => .nil
  | _, _, .cons h r => .cons (Rep.wide hn hm h) (Reps.wide hn hm r)
theorem RepKs.wide (hn : ∀ (k : Nat) (a : Addr), ι[k]? = some a → ι1[k]? = some a) (hm : ∀ a, M1 a → M a) : ∀ {ds : List (D × D)} {vs : List (Key × V)}, RepKs C ι M H vs ds → RepKs C ι1 M1 H vs ds
  | _, _, .nil => .nil
  | _, _, .cons h r => .cons (Rep.wide hn hm h) (RepKs.wide hn hm r)
theorem RepTs.wide (hn : ∀ (k : Nat) (a : Addr), ι[k]? = some a → ι1[k]? = some a) (hm : ∀ a, M1 a → M a) : ∀ {ds : List (D × D)} {vs : List (NestedKey × Addr × V)}, RepTs C ι M H vs ds → RepTs C ι1 M1 H vs ds
  | _, _, .nil => .nil
  | _, _, .cons t h0 h r => .cons t (Rep.wide hn hm h0) (Rep.wide hn hm h) (RepTs.wide hn hm r)
theorem RepGs.wide (hn : ∀ (k : Nat) (a : Addr), ι[k]? = some a → ι1[k]? = some a) (hm : ∀ a, M1 a → M a) : ∀ {ds : List (D × D)} {vs : List (Str × V)}, RepGs C ι M H vs ds → RepGs C ι1 M1 H vs ds
  | _, _, .nil => .nil
  | _, _, .cons h r => .cons (Rep.wide hn hm h) (RepGs.wide hn hm r)
theorem RepFs.wide (hn : ∀ (k : Nat) (a : Addr), ι[k]? = some a → ι1[k]? = some a) (hm : ∀ a, M1 a → M a) : ∀ {ds : List (Str × D)} {vs : List (Str × V)}, RepFs C ι M H vs ds → RepFs C ι1 M1 H vs ds
  | _, _, .nil => .nil
  | _, _, .cons h r => .cons (Rep.wide hn hm h) (RepFs.wide hn hm r)
end
theorem ContAt.wide {a : Addr} {d : D} (hn : ∀ (k : Nat) (b : Addr), ι[k]? = Option.some b → ι1[k]? = Option.some b) (hm : ∀ b, M1 b → M b) (r : ContAt C ι M H a d) : ContAt C ι1 M1 H a d := by
  cases r with
  | lst h r => exact .lst h (r.wide hn hm)
  | dctK h r => exact .dctK h (r.wide hn hm)
  | dctT h r => exact .dctT h (r.wide hn hm)
  | ins h r => exact .ins h (r.wide hn hm)
theorem ContAt.low {a : Addr} {d : D} (hn : ∀ k, k < n → ι[k]? = ι1[k]?) (hm : ∀ a, M1 a → M a) (r : ContAt C ι M H a d) (q : MP.low n d = true) : ContAt C ι1 M1 H a d := by
  cases r with
  | lst h r => exact .lst h (r.low hn hm q)
  | dctK h r => exact .dctK h (r.low hn hm q)
  | dctT h r => exact .dctT h (r.low hn hm q)
  | ins h r => exact .ins h (r.low hn hm q)
/-- an object that does not change from now on, dicts locked -/
inductive LkAt (C : RC) (ι : List Addr) (M : Addr → Prop) (H : Hp) (a : Addr) : D → Prop
  | lst {vs : List V} {ds : List D} : H a = some (.lst vs) → Reps C ι M H vs ds → LkAt C ι M H a (.lst ds)
  | dctK {o : Obj} {kvs : List (Key × V)} {ds : List (D × D)} : H a = some (.frz o (.dK kvs)) → RepKs C ι M H kvs ds → LkAt C ι M H a (.dct ds)
  | dctT {o : Obj} {l : List (NestedKey × Addr × V)} {ds : List (D × D)} : H a = some (.frz o (.ext (dtPhi C.w a l))) → RepTs C ι M H l ds → LkAt C ι M H a (.dct ds)
  | ins {c : Nat} {dx : Addr} {vfs : List (Str × V)} {fs : List (Str × D)} : H a = some (.ins (C.ca c) dx vfs) → RepFs C ι M H vfs fs → LkAt C ι M H a (.ins c fs)
theorem LkAt.go {ι' : List Addr} {M' : Addr → Prop} {H' : Hp} {a : Addr} {d : D} (r : LkAt C ι M H a d) (g : Go ι M H ι' M' H') (e : ∀ o, H a = some o → H' a = some o) : LkAt C ι' M' H' a d := by
  cases r with
  | lst h r => exact .lst (e _ h) (r.go g)
  | dctK h r => exact .dctK (e _ h) (r.go g)
  | dctT h r => exact .dctT (e _ h) (r.go g)
  | ins h r => exact .ins (e _ h) (r.go g)
theorem LkAt.low {a : Addr} {d : D} (hn : ∀ k, k < n → ι[k]? = ι1[k]?) (hm : ∀ a, M1 a → M a) (r : LkAt C ι M H a d) (q : MP.low n d = true) : LkAt C ι1 M1 H a d := by
  cases r with
  | lst h r => exact .lst h (r.low hn hm q)
  | dctK h r => exact .dctK h (r.low hn hm q)
  | dctT h r => exact .dctT h (r.low hn hm q)
  | ins h r => exact .ins h (r.low hn hm q)
theorem LkAt.rep {a : Addr} {d : D} (r : LkAt C ι M H a d) (m : ¬ M a) : Rep C ι M H (.ref a) d := by
  cases r with
  | lst h r => exact .lst m h r
  | dctK h r => exact .dctK m h r
  | dctT h r => exact .dctT m h r
  | ins h r => exact .ins m h r
/-- the objects behind the n-th are locked, from the j-th on -/
theorem lockFrom {R : Hp → Prop} {H0 : Hp} {h : MH} (nd : ι.Nodup) (sub : ∀ a, a ∈ ι → M a) (K : ∀ H4, Go ι M H0 ι M H4 → (∀ b, b ∉ ι → H4 b = H0 b) → (∀ (k : Nat) (d : D), h[k]? = some d → ∃ a, ι[k]? = some a ∧ (n < k → LkAt C ι M H4 a d) ∧ (k ≤ n → ContAt C ι M H4 a d)) → R H4) :
    ∀ (m j : Nat) (H : Hp), h.length - j = m → n < j → Go ι M H0 ι M H → (∀ b, b ∉ ι → H b = H0 b) → (∀ (k : Nat) (d : D), h[k]? = some d → ∃ a, ι[k]? = some a ∧ (n < k → k < j → LkAt C ι M H a d) ∧ (k ≤ n ∨ j ≤ k → ContAt C ι M H a d)) → LockQ R H
  | 0, j, H, hm, hj, g, kp, hp => .done (K H g kp fun k d q => by
      have hk : k < h.length := by
        by_cases z : k < h.length
        · exact z
        · rw [List.getElem?_eq_none (by omega)] at q; cases q
      obtain ⟨a, h1, h2, h3⟩ := hp k d q
      exact ⟨a, h1, fun z => h2 z (by omega), fun z => h3 (.inl z)⟩)
  | m + 1, j, H, hm, hj, g, kp, hp => by
    have hlt : j < h.length := by omega
    obtain ⟨a, ha, _, hc⟩ := hp j h[j] (List.getElem?_eq_getElem hlt)
    have c := hc (.inr (Nat.le_refl _))
    have hin : a ∈ ι := List.mem_of_getElem? ha
    have hne : ∀ {k b}, k ≠ j → ι[k]? = some b → b ≠ a := fun {k b} hk hb z => by
      subst z
      have hl : k < ι.length := by
        by_cases w : k < ι.length
        · exact w
        · rw [List.getElem?_eq_none (by omega)] at hb; cases hb
      exact hk ((List.getElem?_inj hl nd).mp (hb.trans ha.symm))
    have lk : ∀ {u : HO}, H a = some u → Mut (some u) → (∀ o, LkAt C ι M (upd H a (.frz o u)) a h[j]) → LockQ R H := fun {u} q mu l => .lock q mu fun o => by
      have gw : Go ι M H ι M (upd H a (.frz o u)) := Go.write (sub a hin)
      refine lockFrom nd sub K m (j + 1) _ (by omega) (by omega) (g.trans gw) (fun b hb => ?_) fun k d q => ?_
      · have hb' : b ≠ a := fun z => hb (by rw [z]; exact hin)
        rw [upd_ne hb']; exact kp b hb
      · obtain ⟨b, h1, h2, h3⟩ := hp k d q
        by_cases hk : k = j
        · subst hk
          rw [ha] at h1
          cases h1
          rw [List.getElem?_eq_getElem hlt] at q
          cases q
          exact ⟨a, ha, fun _ _ => l o, fun z => by omega⟩
        · have hb := hne hk h1
          exact ⟨b, h1, fun z1 z2 => (h2 z1 (by omega)).go gw fun o q => by rw [upd_ne hb]; exact q, fun z => (h3 (by omega)).go gw fun o q => by rw [upd_ne hb]; exact q⟩
    have dn : LkAt C ι M H a h[j] → LockQ R H := fun l => lockFrom nd sub K m (j + 1) H (by omega) (by omega) g kp fun k d q => by
      obtain ⟨b, h1, h2, h3⟩ := hp k d q
      by_cases hk : k = j
      · subst hk
        rw [ha] at h1
        cases h1
        rw [List.getElem?_eq_getElem hlt] at q
        cases q
        exact ⟨a, ha, fun _ _ => l, fun z => by omega⟩
      · exact ⟨b, h1, fun z1 z2 => h2 z1 (by omega), fun z => h3 (by omega)⟩
    cases hd : h[j] with
    | lst ds => rw [hd] at c dn lk; cases c with
      | lst q r => exact dn (.lst q r)
    | ins i fs => rw [hd] at c dn lk; cases c with
      | ins q r => exact dn (.ins q r)
    | dct ds =>
      rw [hd] at c dn lk
      have gw : ∀ {o : HO}, Go ι M H ι M (upd H a o) := Go.write (sub a hin)
      cases c with
      | dctK q r => exact lk q True.intro fun o => .dctK upd_same (r.go gw)
      | dctT q r => exact lk q True.intro fun o => .dctT upd_same (r.go gw)
    | _ => rw [hd] at c; cases c
theorem ContAt.rep {a : Addr} {d : D} (r : ContAt C ι M H a d) (m : ¬ M a) (ni : ∀ ds, d ≠ .dct ds) : Rep C ι M H (.ref a) d := by
  cases r with
  | lst h r => exact .lst m h r
  | dctK h r => exact absurd rfl (ni _)
  | dctT h r => exact absurd rfl (ni _)
  | ins h r => exact .ins m h r
theorem thaw_rep {h : MH} {v : V} {d e : D} (hn : ∀ k, k < n → ι[k]? = ι1[k]?) (hm : ∀ a, M1 a → M a) (hp : ∀ (k : Nat) (d : D), h[k]? = some d → ∃ a, ι[k]? = some a ∧ (n < k → LkAt C ι M H a d))
    (hx : ∀ (k : Nat) (a : Addr), n < k → ι[k]? = some a → ¬ M1 a) (hi : ∃ c fs, h[n]? = some (.ins c fs)) (r : Rep C ι M H v d) (q : thaw n h d = some e) : Rep C ι1 M1 H v e := by
  have gen : (if MP.low n d then some d else none) = some e → Rep C ι1 M1 H v e := fun q => by
    split at q
    · rename_i hl
      cases q
      exact r.low hn hm hl
    · cases q
  cases d with
  | ref k =>
    have q' : (if k < n then some (D.ref k) else (match h[k]? with
      | some (.ins _ _) => none
      | some d => if MP.low n d then some d else none
      | none => none)) = some e := q
    cases r with
    | @ref a _ ha =>
      split at q'
      · rename_i hk
        cases q'
        exact .ref (by rw [← hn k hk]; exact ha)
      · rename_i hk
        cases hh : h[k]? with
        | none => rw [hh] at q'; cases q'
        | some d =>
          rw [hh] at q'
          obtain ⟨a', h1, h2⟩ := hp k d hh
          rw [ha] at h1
          cases h1
          have hne : k ≠ n := fun z => by
            subst z
            obtain ⟨c, fs, hf⟩ := hi
            rw [hf] at hh
            cases hh
            cases q'
          have hm' := hx k a (by omega) ha
          have fin : (∀ c fs, d ≠ .ins c fs) → (if MP.low n d then some d else none) = some e → Rep C ι1 M1 H (.ref a) e := fun ni q => by
            split at q
            · rename_i hl
              cases q
              exact ((h2 (by omega)).low hn hm hl).rep hm'
            · cases q
          cases d <;> first | exact fin (fun c fs z => nomatch z) q' | (cases q'; done)
  | _ => exact gen q
theorem thawF_rep {h : MH} (hn : ∀ k, k < n → ι[k]? = ι1[k]?) (hm : ∀ a, M1 a → M a) (hp : ∀ (k : Nat) (d : D), h[k]? = some d → ∃ a, ι[k]? = some a ∧ (n < k → LkAt C ι M H a d))
    (hx : ∀ (k : Nat) (a : Addr), n < k → ι[k]? = some a → ¬ M1 a) (hi : ∃ c fs, h[n]? = some (.ins c fs)) : ∀ {vfs : List (Str × V)} {fs gs : List (Str × D)}, RepFs C ι M H vfs fs → thawF n h fs = some gs → RepFs C ι1 M1 H vfs gs
  | _, _, _, .nil, q => by cases q; exact .nil
  | _, (f, d) :: fs, _, .cons r rs, q => by
    have q' : (match thaw n h d, thawF n h fs with
      | some e, some s => some ((f, e) :: s)
      | _, _ => none) = some _ := q
    cases h1 : thaw n h d with
    | none => rw [h1] at q'; cases q'
    | some e =>
      cases h2 : thawF n h fs with
      | none => rw [h1, h2] at q'; cases q'
      | some s =>
        rw [h1, h2] at q'
        cases q'
        exact .cons (thaw_rep hn hm hp hx hi r h1) (thawF_rep hn hm hp hx hi rs h2)
end

section
variable {tb : Tb} {Φ : Nat → List D → MH → R D} {x : Tx} {N : List Str} {j : Nat} {S : SC} {X : Cx} {sc : Scope} {e ea eb ec : Expr} {es : List Expr} {a b c m : M} {pos p p2 apos : Pos} {y : Str}

theorem mk_core {ι : List Addr} {e : Ev} {h : MH} {σ : L2.St} {H : Hp} {vs : List V} {ds : List D} {d : D} {h2 h' : MH} {c f np : Nat} {fr : Bool} {Q : VK} {E : XK} (rl : Rel S ι e h σ H) (r : Reps S.C ι (Mu S.M0 ι e σ) H vs ds) (hn : vs.length + 1 = np)
    (eq : Φ f (.ref h.length :: ds) (h ++ [.ins c []]) = .ok .non h2) (eq2 : frozen h.length h2 = .ok d h')
    (K : ∀ H' v, Go ι (Mu S.M0 ι e σ) H ι (Mu S.M0 ι e σ) H' → Rel S ι e h' σ H' → Rep S.C ι (Mu S.M0 ι e σ) H' v d → Q v H') {xa dx : Addr} (hx : H xa = none) (hdx : H dx = none) (hne : dx ≠ xa) :
    spF S.C np fr (Φ f) (.ref xa :: vs) (upd (upd H dx (.own xa)) xa (.ins (S.C.ca c) dx [])) (fun v H2 => v = .non ∧ LockQ (Q (.ref xa)) H2) E := by
  have s1 : Same H (upd H dx (.own xa)) := same_laid hdx
  have hx1 : upd H dx (.own xa) xa = none := by rw [upd_ne (Ne.symm hne)]; exact hx
  have s2 : Same (upd H dx (.own xa)) (upd (upd H dx (.own xa)) xa (.ins (S.C.ca c) dx [])) := same_laid hx1
  have s3 : Same H (upd (upd H dx (.own xa)) xa (.ins (S.C.ca c) dx [])) := fun b o q => s2 b o (s1 b o q)
  generalize hH2 : upd (upd H dx (.own xa)) xa (.ins (S.C.ca c) dx []) = H2 at *
  have hxs : H2 xa = some (.ins (S.C.ca c) dx []) := by rw [← hH2]; exact upd_same
  have nxi : xa ∉ ι := fun z => by obtain ⟨o, q⟩ := rl.there (.inr (.inl z)); rw [hx] at q; cases q
  have nxm : ¬ Mu S.M0 ι e σ xa := rl.not hx
  have g1 : Go ι (Mu S.M0 ι e σ) H (ι ++ [xa]) (fun a => Mu S.M0 ι e σ a ∨ a = xa) H2 := by
    refine ⟨fun n a q => ?_, fun a o q _ => s3 a o q, fun a o q z => ?_, fun a z => ?_, fun a o q => ⟨o, s3 a o q⟩⟩
    · have hlt : n < ι.length := by
        by_cases z : n < ι.length
        · exact z
        · rw [List.getElem?_eq_none (by omega)] at q; cases q
      rw [List.getElem?_append_left hlt]; exact q
    · rcases z with z | z
      · exact z
      · subst z; rw [hx] at q; cases q
    · rcases List.mem_append.mp z with z | z
      · exact .inl z
      · have : a = xa := by simpa using z
        subst this
        exact .inr hx
  have scn : Scn S.C (ι ++ [xa]) (fun a => Mu S.M0 ι e σ a ∨ a = xa) (h ++ [.ins c []]) H2 := by
    refine ⟨fun a m => ?_, fun a z => ?_, ?_, ?_, fun n d q => ?_⟩
    · rcases m with m | m
      · obtain ⟨o, q⟩ := rl.there m; exact ⟨o, s3 a o q⟩
      · subst m; exact ⟨_, hxs⟩
    · rcases List.mem_append.mp z with z | z
      · exact .inl (.inr (.inl z))
      · exact .inr (by simpa using z)
    · rw [List.length_append, List.length_append, rl.hl]; rfl
    · rw [List.nodup_append]
      refine ⟨rl.hd, by simp, fun a ha b hb => ?_⟩
      have : b = xa := by simpa using hb
      subst this
      exact fun z => nxi (z ▸ ha)
    · by_cases hlt : n < h.length
      · rw [List.getElem?_append_left hlt] at q
        obtain ⟨a, q1, q2⟩ := rl.hp n d q
        exact ⟨a, g1.pre n a q1, q2.go g1 fun o q => s3 a o q⟩
      · by_cases hn : n = h.length
        · subst hn
          rw [List.getElem?_append_right (Nat.le_refl _), Nat.sub_self] at q
          cases q
          refine ⟨xa, ?_, .ins hxs .nil⟩
          rw [← rl.hl, List.getElem?_append_right (Nat.le_refl _), Nat.sub_self]
          rfl
        · rw [List.getElem?_eq_none (by rw [List.length_append]; show h.length + 1 ≤ n; omega)] at q
          cases q
  have hxn : (ι ++ [xa])[h.length]? = some xa := by
    rw [← rl.hl, List.getElem?_append_right (Nat.le_refl _), Nat.sub_self]; rfl
  refine ⟨hn, ι ++ [xa], _, .ref h.length :: ds, _, .non, h2, scn, .cons (.ref hxn) (r.go g1), eq, fun ι3 H3 v A rv nw => ?_⟩
  have hv : v = .non := by
    cases fr with
    | false => have q := rv rfl; cases q; rfl
    | true =>
      obtain ⟨_, _, _, _, _, q⟩ := nw rfl
      cases q
  refine ⟨hv, ?_⟩
  refine lockFrom (n := h.length) (h := h2) A.scn.hd (M := fun a => (Mu S.M0 ι e σ a ∨ a = xa) ∨ a ∈ ι3) (fun a z => Or.inr z) (fun H4 gl kp lp => ?_) _ (h.length + 1) H3 rfl (Nat.lt_succ_self _) .refl (fun _ _ => rfl) fun k d q => by
    obtain ⟨a, q1, q2⟩ := A.scn.hp k d q
    exact ⟨a, q1, fun z1 z2 => by omega, fun _ => q2⟩
  have Ago := A.go.trans gl
  have Akept : ∀ b o, H2 b = some o → b ∉ ι ++ [xa] → H4 b = some o := fun b o q z => by
    rw [kp b fun w => ?_]
    · exact A.kept b o q z
    · rcases A.go.nw b w with w | w
      · exact z w
      · rw [q] at w; cases w
  -- the frozen instance
  have eq2' : (match h2[h.length]? with
    | some (.ins c fs) => (match thawF h.length h2 fs with
      | some gs => if (h2.take h.length).all (MP.low h.length) then R.ok (D.ins c gs) (h2.take h.length) else .no
      | none => .no)
    | _ => .no) = R.ok d h' := eq2
  have pre : ∀ k, k < h.length → ι3[k]? = ι[k]? := fun k hk => by
    have hk' : k < ι.length := by rw [rl.hl]; exact hk
    rw [List.getElem?_eq_getElem hk']
    refine Ago.pre k _ ?_
    rw [List.getElem?_append_left hk']
    exact List.getElem?_eq_getElem hk'
  have muS : ∀ a, Mu S.M0 ι e σ a → ((Mu S.M0 ι e σ a ∨ a = xa) ∨ a ∈ ι3) := fun a m => .inl (.inl m)
  have hg : Go ι (Mu S.M0 ι e σ) H ι (Mu S.M0 ι e σ) H4 := by
    refine ⟨fun n a q => q, fun a o q m => ?_, fun a o q z => z, fun a z => .inl z, fun a o q => Ago.live a o (s3 a o q)⟩
    refine Ago.kept a o (s3 a o q) fun z => ?_
    rcases z with z | z
    · exact m z
    · subst z; rw [hx] at q; cases q
  cases hi : h2[h.length]? with
  | none => rw [hi] at eq2'; cases eq2'
  | some di =>
    rw [hi] at eq2'
    cases di <;> first | (cases eq2'; done) | skip
    rename_i c' fs
    cases ht : thawF h.length h2 fs with
    | none => simp only [ht] at eq2'; cases eq2'
    | some gs =>
      simp only [ht] at eq2'
      obtain ⟨hlow, eq3⟩ := ite_ok eq2'
      cases eq3
      have hln : h.length < h2.length := by
        by_cases z : h.length < h2.length
        · exact z
        · rw [List.getElem?_eq_none (by omega)] at hi; cases hi
      refine K H4 _ hg ?_ ?_
      · refine ⟨rl.len, fun i d q => ?_, fun i d q => ?_, rl.dist, ?_, rl.hd, fun n d q => ?_, fun b o q z => ?_, rl.fresh, rl.pre, fun a m => ?_⟩
        · obtain ⟨v, q1, q2⟩ := rl.val i d q
          exact ⟨v, q1, q2.go hg⟩
        · obtain ⟨a, q1, q2, q3, q4⟩ := rl.own i d q
          refine ⟨a, q1, q2, q3, q4.go hg fun o qo => Akept a o (s3 a o qo) fun z => ?_⟩
          rcases List.mem_append.mp z with z | z
          · exact q3 z
          · have : a = xa := by simpa using z
            subst this
            rw [hx] at qo; cases qo
        · rw [List.length_take, rl.hl]; omega
        · have hnl : n < h.length := by
            by_cases z : n < h.length
            · exact z
            · rw [List.getElem?_eq_none (by rw [List.length_take]; omega)] at q; cases q
          rw [List.getElem?_take_of_lt hnl] at q
          obtain ⟨a, q1, _, q2⟩ := lp n d q
          have q2 := q2 (by omega)
          rw [pre n hnl] at q1
          refine ⟨a, q1, q2.low pre muS ?_⟩
          have := List.all_eq_true.mp hlow d (List.mem_of_getElem? (by rw [List.getElem?_take_of_lt hnl]; exact q))
          exact this
        · refine Akept b o (s3 b o (rl.kept b o q z)) fun z' => ?_
          rcases List.mem_append.mp z' with z' | z'
          · rcases rl.fresh b z' with w | w
            · exact z w
            · rw [q] at w; cases w
          · have : b = xa := by simpa using z'
            subst this
            have := rl.kept b o q z
            rw [hx] at this; cases this
        · obtain ⟨o, q⟩ := rl.mz a m
          exact Ago.live a o (s3 a o q)
      · obtain ⟨a, q1, _, q2⟩ := lp _ _ hi
        have q2 := q2 (Nat.le_refl _)
        have hax : a = xa := by
          have := Ago.pre _ _ hxn
          rw [q1] at this
          exact (Option.some.inj this)
        subst hax
        cases q2 with
        | ins q3 q4 =>
          refine .ins nxm q3 (thawF_rep pre muS (fun k d q => let ⟨a, q1, q2, _⟩ := lp k d q; ⟨a, q1, q2⟩) (fun k a' hk ha' => ?_) ⟨_, _, hi⟩ q4 ht)
          have nin : a' ∉ ι ++ [a] := fun z => by
            obtain ⟨k', hk', rfl⟩ := List.mem_iff_getElem.mp z
            have e1 := Ago.pre k' _ (List.getElem?_eq_getElem hk')
            have e2 : k = k' := (List.getElem?_inj (by
              by_cases w : k < ι3.length
              · exact w
              · rw [List.getElem?_eq_none (by omega)] at ha'; cases ha') A.scn.hd).mp (ha'.trans e1.symm)
            rw [List.length_append, rl.hl] at hk'
            have : ([a] : List Addr).length = 1 := rfl
            omega
          rcases Ago.nw a' (List.mem_of_getElem? ha') with z | z
          · exact absurd z nin
          · refine rl.not ?_
            cases q : H a' with
            | none => rfl
            | some o => rw [s3 a' o q] at z; cases z
theorem e_mk {c : Nat} {l : Ms} (G : Gd tb Φ x N j S X) (np : ∀ f ds h d h', Φ f ds h = .ok d h' → ds.length = (x.fps f).length) (hs : X.env.scope = sc) (h1 : x.clN c = some y) (h2 : glB sc y = true) (h3 : dbgOk y = true) (hl : PA X es (tEs tb Φ S l)) (hz : es = [] → l = .nil) (hp : es.all plainA = true) :
    PE X (.Call (.Name y p) es [] pos) (tE tb Φ S (.mk c l)) := by
  have hm := G.tx.cl c y h1
  have hK : S.C.K = X.K := by rw [G.C]
  have hca : S.C.ca = x.ca := by rw [G.C]
  cases hi : tb.init c with
  | none =>
    refine ⟨fun pins s σ H Q I ⟨ι, e, h, rl, d, h', eq, K⟩ => ?_⟩
    obtain ⟨ds, h1, e1, eq⟩ := bind_ok eq
    rw [hi] at eq
    cases eq
  | some f =>
    by_cases hq : (l.len + 1) + (tb.dfl f (l.len + 1)).length = (x.fps f).length
    · obtain ⟨dus, dvs, hb, hd, hr⟩ := G.tx.bndD f (l.len + 1) hq
      rw [hK] at hb
      have hM : Mk X.K (x.ca c) (x.fa f) := by rw [← hK]; exact G.tx.mkr c f hi
      have t1 : PE X (.Call (.Name y p) es [] pos) (tMake (x.ca c) (spF S.C (x.fps f).length (x.frs f) (Φ f)) dvs (fun _ _ _ => False) (tEs tb Φ S l)) := by
        cases es with
        | nil => exact PE.imp (pe_make0 hM (G.fn f) G.room (glB_of h2 hs) hm hb hd pass0 (dbg1 h3)) fun σ H Q q => nil_of (hz rfl) q
        | cons e es =>
          have h' : (plainA e && es.all plainA) = true := hp
          rw [Bool.and_eq_true] at h'
          exact pe_make hM (G.fn f) G.room (glB_of h2 hs) hm hb hd pass0 hl (dbg1 h3) (plain_star h'.1) (plain_any h'.2)
      refine PE.imp (PE.lock t1) fun σ H Q ⟨ι, e, h, rl, d, h', eq, K⟩ => ?_
      obtain ⟨ds, h1, e1, eq⟩ := bind_ok eq
      rw [hi] at eq
      obtain ⟨dr, h2, e2, eq⟩ := bind_ok eq
      cases dr <;> first | (cases eq; done) | skip
      rw [evs_len e1] at e2
      refine ⟨ι, e, h, rl, ds, h1, e1, fun ι1 H1 vs g1 rl1 r1 xa dx hx hdx hne => ?_⟩
      have rr := r1.append (hr ι1 (Mu S.M0 ι1 e σ) H1)
      rw [← hca]
      exact mk_core (c := c) rl1 rr (by rw [rr.length]; have := np _ _ _ _ _ e2; simpa using this) e2 eq (fun H' v g rl' r => K ι1 H' v (g1.trans g) rl' r) hx hdx hne
    · refine ⟨fun pins s σ H Q I ⟨ι, e, h, rl, d, h', eq, K⟩ => ?_⟩
      obtain ⟨ds, h1, e1, eq⟩ := bind_ok eq
      rw [hi] at eq
      obtain ⟨dr, h2, e2, eq⟩ := bind_ok eq
      have q := np _ _ _ _ _ e2
      rw [List.length_cons, List.length_append, evs_len e1] at q
      exact absurd (by omega) hq
end
end MP

set_option maxRecDepth 100000
set_option maxHeartbeats 1000000
/-! MP15: stores, blocks' scenes, what is walked. -/
namespace MP
open PySem PySem.Spec PyProof.Rows L2

theorem wipe_get (σ : L2.St) (k : Nat) : ∀ ws : List Nat, (L2.wipe σ ws)[k]? = if k ∈ ws then (σ[k]?).map (fun _ => none) else σ[k]?
  | [] => by simp [L2.wipe]
  | w :: ws => by
    unfold L2.wipe
    rw [List.getElem?_set]
    by_cases h : w = k
    · subst h
      by_cases hl : w < (L2.wipe σ ws).length
      · have hl' : w < σ.length := by rw [← wipe_length σ ws]; exact hl
        rw [if_pos rfl, if_pos hl, if_pos (by simp), List.getElem?_eq_getElem hl']; rfl
      · have hl' : σ.length ≤ w := by rw [← wipe_length σ ws]; omega
        rw [if_pos rfl, if_neg hl, if_pos (by simp), List.getElem?_eq_none hl']; rfl
    · rw [if_neg h, wipe_get σ k ws]
      have : k ∈ w :: ws ↔ k ∈ ws := by simp [show ¬ k = w from fun z => h z.symm]
      simp only [this]
theorem wipeE_len : ∀ (ws : List Nat) (e : Ev), (wipeE e ws).length = e.length
  | [], e => rfl
  | w :: ws, e => by
    show (wipeE (e.set w .no) ws).length = _
    rw [wipeE_len ws, List.length_set]
theorem wipeE_get (k : Nat) : ∀ (ws : List Nat) (e : Ev), (wipeE e ws)[k]? = if k ∈ ws then (e[k]?).map (fun _ => Slot.no) else e[k]?
  | [], e => by simp [wipeE]
  | w :: ws, e => by
    show (wipeE (e.set w .no) ws)[k]? = _
    rw [wipeE_get k ws, List.getElem?_set]
    by_cases h : w = k
    · subst h
      by_cases hl : w < e.length
      · rw [if_pos rfl, if_pos hl, List.getElem?_eq_getElem hl]
        by_cases hw : w ∈ ws <;> simp [hw]
      · rw [if_pos rfl, if_neg hl, List.getElem?_eq_none (by omega)]
        by_cases hw : w ∈ ws <;> simp [hw]
    · have : k ∈ w :: ws ↔ k ∈ ws := by simp [show ¬ k = w from fun z => h z.symm]
      rw [if_neg h]
      simp only [this]
theorem noOwn_get {e : Ev} {ws : List Nat} (h : noOwn e ws = true) {k : Nat} {d : D} (hk : k ∈ ws) : e[k]? ≠ some (.own d) := fun z => by
  have := List.all_eq_true.mp h k hk
  simp only [z] at this
  cases this
theorem noOwn_of {e : Ev} {ws : List Nat} (h : ∀ k ∈ ws, ∀ d, e[k]? ≠ some (.own d)) : noOwn e ws = true := List.all_eq_true.mpr fun k hk => by
  have := h k hk
  cases z : e[k]? with
  | none => rfl
  | some s => cases s with
    | own d => exact absurd z (this d)
    | _ => rfl

section
variable {S : SC} {ι : List Addr} {e : Ev} {h : MH} {σ : L2.St} {H H' : Hp}
/-- the same slots' objects, the scene's other things as they were -/
theorem Rel.re {e' : Ev} {σ' : L2.St} (rl : Rel S ι e h σ H) (len : e'.length = σ'.length) (own : ∀ i a, OwnAt e' σ' i a → OwnAt e σ i a)
    (val : ∀ (i : Nat) (d : D), e'[i]? = some (.val d) → ∃ v, σ'[i]? = some (some v) ∧ Rep S.C ι (Mu S.M0 ι e σ) H v d) (sl : ∀ (i : Nat) (d : D), e'[i]? = some (.own d) → e[i]? = some (.own d) ∧ σ'[i]? = σ[i]?) : Rel S ι e' h σ' H := by
  have mu : ∀ a, Mu S.M0 ι e' σ' a → Mu S.M0 ι e σ a := fun a m => by
    rcases m with m | m | ⟨i, m⟩
    · exact .inl m
    · exact .inr (.inl m)
    · exact .inr (.inr ⟨i, own i a m⟩)
  refine ⟨len, fun i d q => ?_, fun i d q => ?_, fun i j a p q => rl.dist i j a (own i a p) (own j a q), rl.hl, rl.hd, fun n d q => ?_, rl.kept, rl.fresh, rl.pre, rl.mz⟩
  · obtain ⟨v, h1, h2⟩ := val i d q
    exact ⟨v, h1, h2.go (.less mu)⟩
  · obtain ⟨q1, q2⟩ := sl i d q
    obtain ⟨a, h1, h2, h3, h4⟩ := rl.own i d q1
    exact ⟨a, q2.trans h1, h2, h3, h4.go (.less mu) fun _ z => z⟩
  · obtain ⟨a, h1, h2⟩ := rl.hp n d q
    exact ⟨a, h1, h2.go (.less mu) fun _ z => z⟩
theorem set_some {α : Type} {l : List α} {i k : Nat} {x y : α} (h : (l.set i x)[k]? = some y) : (k = i ∧ y = x ∧ i < l.length) ∨ (k ≠ i ∧ l[k]? = some y) := by
  rw [List.getElem?_set] at h
  split at h
  · rename_i e
    split at h
    · cases h; exact .inl ⟨e.symm, rfl, by assumption⟩
    · cases h
  · rename_i e
    exact .inr ⟨fun z => e z.symm, h⟩
theorem Rel.setVal {i : Nat} {v : V} {d : D} (rl : Rel S ι e h σ H) (r : Rep S.C ι (Mu S.M0 ι e σ) H v d) : Rel S ι (e.set i (.val d)) h (σ.set i (some v)) H := by
  refine rl.re (by rw [List.length_set, List.length_set]; exact rl.len) (fun k a ⟨⟨d', q1⟩, q2⟩ => ?_) (fun k d' q => ?_) (fun k d' q => ?_)
  · rcases set_some q1 with ⟨_, z, _⟩ | ⟨z, q1⟩
    · cases z
    · rcases set_some q2 with ⟨z', _⟩ | ⟨_, q2⟩
      · exact absurd z' z
      · exact ⟨⟨d', q1⟩, q2⟩
  · rcases set_some q with ⟨rfl, z, hl⟩ | ⟨z, q1⟩
    · cases z
      refine ⟨v, ?_, r⟩
      rw [List.getElem?_set_self (by rw [← rl.len]; exact hl)]
    · obtain ⟨v', h1, h2⟩ := rl.val k d' q1
      exact ⟨v', by rw [List.getElem?_set_ne (fun w => z w.symm)]; exact h1, h2⟩
  · rcases set_some q with ⟨rfl, z, hl⟩ | ⟨z, q1⟩
    · cases z
    · exact ⟨q1, by rw [List.getElem?_set_ne (fun w => z w.symm)]⟩
theorem own_wipe {ws : List Nat} (no : noOwn e ws = true) (i : Nat) (a : Addr) : OwnAt (wipeE e ws) (L2.wipe σ ws) i a ↔ OwnAt e σ i a := by
  unfold OwnAt
  rw [wipeE_get, wipe_get]
  by_cases hk : i ∈ ws
  · simp only [hk, if_true]
    constructor
    · rintro ⟨⟨d, q⟩, _⟩
      cases z : e[i]? with
      | none => rw [z] at q; cases q
      | some s => rw [z] at q; cases q
    · rintro ⟨⟨d, q⟩, _⟩
      exact absurd q (noOwn_get no hk)
  · simp only [hk, if_false]
theorem Rel.wipe {ws : List Nat} (rl : Rel S ι e h σ H) (no : noOwn e ws = true) : Rel S ι (wipeE e ws) h (L2.wipe σ ws) H := by
  refine rl.re (by rw [wipeE_len, wipe_length]; exact rl.len) (fun k a q => (own_wipe no k a).mp q) (fun k d q => ?_) (fun k d q => ?_)
  · rw [wipeE_get] at q
    by_cases hk : k ∈ ws
    · rw [if_pos hk] at q
      cases z : e[k]? with
      | none => rw [z] at q; cases q
      | some s => rw [z] at q; cases q
    · rw [if_neg hk] at q
      obtain ⟨v, h1, h2⟩ := rl.val k d q
      exact ⟨v, by rw [wipe_get, if_neg hk]; exact h1, h2⟩
  · rw [wipeE_get] at q
    by_cases hk : k ∈ ws
    · rw [if_pos hk] at q
      cases z : e[k]? with
      | none => rw [z] at q; cases q
      | some s => rw [z] at q; cases q
    · rw [if_neg hk] at q
      exact ⟨q, by rw [wipe_get, if_neg hk]⟩
theorem Mu.wipe {M0 : Addr → Prop} {ws : List Nat} (no : noOwn e ws = true) (a : Addr) : Mu M0 ι (wipeE e ws) (L2.wipe σ ws) a ↔ Mu M0 ι e σ a := by
  unfold Mu
  simp only [own_wipe no]
theorem wipe_set {i : Nat} {y : Option V} {ws : List Nat} (hi : i ∈ ws) : L2.wipe (σ.set i y) ws = L2.wipe σ ws := by
  refine List.ext_getElem? fun k => ?_
  rw [wipe_get, wipe_get, List.getElem?_set]
  by_cases h : i = k
  · subst h
    rw [if_pos hi, if_pos hi]
    split
    · split
      · rename_i z; rw [List.getElem?_eq_getElem z]; rfl
      · rename_i z; rw [List.getElem?_eq_none (by omega)]
    · rfl
  · simp only [h, if_false]
theorem wipeE_set {i : Nat} {y : Slot} {ws : List Nat} (hi : i ∈ ws) : wipeE (e.set i y) ws = wipeE e ws := by
  refine List.ext_getElem? fun k => ?_
  rw [wipeE_get, wipeE_get, List.getElem?_set]
  by_cases h : i = k
  · subst h
    rw [if_pos hi, if_pos hi]
    split
    · split
      · rename_i z; rw [List.getElem?_eq_getElem z]; rfl
      · rename_i z; rw [List.getElem?_eq_none (by omega)]
    · rfl
  · simp only [h, if_false]
theorem wipe_wipe {ws : List Nat} : L2.wipe (L2.wipe σ ws) ws = L2.wipe σ ws := by
  refine List.ext_getElem? fun k => ?_
  rw [wipe_get, wipe_get]
  by_cases h : k ∈ ws
  · simp only [h, if_true]; cases σ[k]? <;> rfl
  · simp only [h, if_false]
theorem wipeE_wipe {ws : List Nat} : wipeE (wipeE e ws) ws = wipeE e ws := by
  refine List.ext_getElem? fun k => ?_
  rw [wipeE_get, wipeE_get]
  by_cases h : k ∈ ws
  · simp only [h, if_true]; cases e[k]? <;> rfl
  · simp only [h, if_false]
theorem noOwn_wipe {ws : List Nat} : noOwn (wipeE e ws) ws = true := noOwn_of fun k hk d z => by
  rw [wipeE_get, if_pos hk] at z
  cases w : e[k]? with
  | none => rw [w] at z; cases z
  | some s => rw [w] at z; cases z
end

/-! ### stores to names -/
/-- a store's end: a new scene of the slots, what is wiped stays -/
def tG (tb : Tb) (C : RC) (p : Pat) : TG := fun v σ H Q => ∃ S ι e h d e', S.C = C ∧ Rel S ι e h σ H ∧ Rep S.C ι (Mu S.M0 ι e σ) H v d ∧ bindP p d e = some e' ∧
  ∀ σ', Rel S ι e' h σ' H → (∀ i a, OwnAt e' σ' i a → OwnAt e σ i a) → (∀ ws, patIn ws p = true → L2.wipe σ' ws = L2.wipe σ ws ∧ wipeE e' ws = wipeE e ws ∧ (noOwn e ws = true → noOwn e' ws = true)) → Q σ' H
def setL (e : Ev) (is : List Nat) (ds : List D) : Ev := (is.zip ds).foldl (fun e q => e.set q.1 (.val q.2)) e
def tGL (C : RC) (is : List Nat) : TGs := fun vs σ H Q => ∃ S ι e h ds, S.C = C ∧ Rel S ι e h σ H ∧ Reps S.C ι (Mu S.M0 ι e σ) H vs ds ∧ is.length = ds.length ∧
  ∀ σ', Rel S ι (setL e is ds) h σ' H → (∀ i a, OwnAt (setL e is ds) σ' i a → OwnAt e σ i a) → (∀ ws, is.all (ws.contains ·) = true → L2.wipe σ' ws = L2.wipe σ ws ∧ wipeE (setL e is ds) ws = wipeE e ws ∧ (noOwn e ws = true → noOwn (setL e is ds) ws = true)) → Q σ' H
theorem locB_of {sc : Scope} {y : Str} (h : locB sc y = true) : Loc sc y := by
  unfold locB at h
  split at h
  · exact .inl (by assumption)
  · exact .inr (by assumption)
  · cases h
theorem PG.imp {X : Cx} {e : Expr} {t t' : TG} (h : PG X e t) (i : ∀ v σ H Q, t' v σ H Q → t v σ H Q) : PG X e t' := ⟨fun pins s σ H y u Q I r q => h.run pins s σ H y u Q I r (i y σ H Q q)⟩
theorem PGs.imp {X : Cx} {es : List Expr} {t t' : TGs} (h : PGs X es t) (i : ∀ v σ H Q, t' v σ H Q → t v σ H Q) : PGs X es t' := ⟨fun pins s σ H ys us Q I r q => h.run pins s σ H ys us Q I r (i ys σ H Q q)⟩
theorem own_setVal {e : Ev} {σ : L2.St} {i k : Nat} {a : Addr} {d : D} {v : V} (q : OwnAt (e.set i (.val d)) (σ.set i (some v)) k a) : OwnAt e σ k a := by
  obtain ⟨⟨d', q1⟩, q2⟩ := q
  rcases set_some q1 with ⟨_, z, _⟩ | ⟨z, q1⟩
  · cases z
  · rcases set_some q2 with ⟨z', _⟩ | ⟨_, q2⟩
    · exact absurd z' z
    · exact ⟨⟨d', q1⟩, q2⟩
theorem noOwn_setVal {e : Ev} {i : Nat} {d : D} {ws : List Nat} (no : noOwn e ws = true) : noOwn (e.set i (.val d)) ws = true := noOwn_of fun k hk d' z => by
  rcases set_some z with ⟨_, w, _⟩ | ⟨_, w⟩
  · cases w
  · exact noOwn_get no hk w
theorem g_nm {tb : Tb} {C : RC} {X : Cx} {i : Nat} {y : Str} {pos : Pos} (nd : X.N.Nodup) (hN : X.N[i]? = some y) (hl : Loc X.env.scope y) (hf : X.fn y = true ∨ X.env.scope.names.lookup y = some .local) : PG X (.Name y pos) (tG tb C (.nm i)) :=
  PG.imp (pg_name nd hN hl hf) fun v σ H Q ⟨S, ι, e, h, d, e', hC, rl, r, q, K⟩ => by
    cases q
    refine K _ (rl.setVal r) (fun k a q => own_setVal q) fun ws hw => ?_
    have hi : i ∈ ws := by simpa [patIn] using hw
    exact ⟨wipe_set hi, wipeE_set hi, noOwn_setVal⟩
theorem chkNms_length {N : List Str} {sc : Scope} : ∀ {l : List Nat} {es : List Expr}, chkNms N sc l es = true → l.length = es.length
  | [], [], _ => rfl
  | i :: l, e :: es, h => by
    cases e <;> first | (cases h; done) | exact congrArg (· + 1) (chkNms_length (and3 h).2.2)
  | [], _ :: _, h => by cases h
  | _ :: _, [], h => by cases h
theorem gs_nms {C : RC} {X : Cx} {s0 : Scope} (nd : X.N.Nodup) (hf : ∀ y, locB s0 y = true → Loc X.env.scope y ∧ (X.fn y = true ∨ X.env.scope.names.lookup y = some .local)) : ∀ {l : List Nat} {es : List Expr}, chkNms X.N s0 l es = true → PGs X es (tGL C l)
  | [], [], _ => PGs.imp pgs_nil fun vs σ H Q ⟨S, ι, e, h, ds, hC, rl, r, q, K⟩ => by
      cases ds with
      | cons _ _ => cases q
      | nil =>
        cases r
        exact ⟨rfl, K σ rl (fun _ _ z => z) fun ws hw => ⟨rfl, rfl, fun z => z⟩⟩
  | i :: l, e :: es, h => by
      cases e <;> first | (cases h; done) | skip
      rename_i y p
      obtain ⟨h1, h2, h3⟩ := and3 h
      refine PGs.imp (pgs_cons (pg_name nd (of_decide_eq_true h1) (hf y h2).1 (hf y h2).2) (gs_nms (C := C) nd hf h3)) fun vs σ H Q ⟨S, ι, e, h, ds, hC, rl, r, q, K⟩ => ?_
      cases r with
      | nil => cases q
      | @cons v vs d ds r rs =>
        have rl' := rl.setVal (i := i) r
        have mu : ∀ a, Mu S.M0 ι (e.set i (.val d)) (σ.set i (some v)) a → Mu S.M0 ι e σ a := fun a m => by
          rcases m with m | m | ⟨k, m⟩
          · exact .inl m
          · exact .inr (.inl m)
          · exact .inr (.inr ⟨k, own_setVal m⟩)
        refine ⟨v, vs, rfl, S, ι, _, h, ds, hC, rl', rs.go (.less mu), by simpa using q, fun σ' rl2 ow hw => ?_⟩
        refine K σ' rl2 (fun k a z => own_setVal (ow k a z)) fun ws hw' => ?_
        have hw2 : (ws.contains i && l.all (ws.contains ·)) = true := hw'
        obtain ⟨w1, w2⟩ := and2 hw2
        have hi : i ∈ ws := by simpa using w1
        obtain ⟨a1, a2, a3⟩ := hw ws w2
        exact ⟨a1.trans (wipe_set hi), a2.trans (wipeE_set hi), fun z => a3 (noOwn_setVal z)⟩
  | [], _ :: _, h => by cases h
  | _ :: _, [], h => by cases h
end MP

set_option maxRecDepth 100000
set_option maxHeartbeats 1000000
/-! MP16: patterns, what is walked, comprehensions. -/
namespace MP
open PySem PySem.Spec PyProof.Rows L2

theorem nms_each {N : List Str} {sc : Scope} {env : Env} : ∀ {l : List Nat} {es : List Expr}, chkNms N sc l es = true → (assignEach es env).length = es.length ∧ (assignEach es env).findIdx? (·.1) = none
  | [], [], _ => ⟨rfl, rfl⟩
  | i :: l, e :: es, h => by
    cases e <;> first | (cases h; done) | skip
    rename_i y p
    obtain ⟨a, b⟩ := nms_each (env := env) (and3 h).2.2
    have e1 : assignEach (.Name y p :: es) env = (false, assign (.Name y p) env) :: assignEach es env := rfl
    rw [e1]
    refine ⟨by rw [List.length_cons, List.length_cons, a], ?_⟩
    rw [List.findIdx?_cons, if_neg (by simp), b]
    rfl
  | [], _ :: _, h => by cases h
  | _ :: _, [], h => by cases h
/-- a pattern's store -/
theorem g_pat {tb : Tb} {C : RC} {X : Cx} {p : Pat} {tg : Expr} {s0 : Scope} (hK : C.K = X.K) (hc : X.calm = true) (nd : X.N.Nodup) (hf : ∀ y, locB s0 y = true → Loc X.env.scope y ∧ (X.fn y = true ∨ X.env.scope.names.lookup y = some .local)) (h : chkP X.N s0 p tg = true) : PG X tg (tG tb C p) := by
  cases p with
  | nm i =>
    cases tg <;> first | (cases h; done) | skip
    obtain ⟨h1, h2⟩ := and2 h
    exact g_nm nd (of_decide_eq_true h1) (hf _ h2).1 (hf _ h2).2
  | tp l =>
    cases tg <;> first | (cases h; done) | skip
    rename_i es k pos
    obtain ⟨h1, h2⟩ := and2 h
    obtain ⟨q1, q2⟩ := nms_each (env := X.env) h1
    refine PG.imp (pg_tup hc (gs_nms (C := C) nd hf h1) q1 q2) fun v σ H Q ⟨S, ι, e, h, d, e', hC, rl, r, q, K⟩ => ?_
    cases r with
    | @tup a vs ds ht rs =>
      have q' : (if l.length = ds.length then some (setL e l ds) else none) = some e' := q
      split at q'
      · rename_i hl
        cases q'
        refine ⟨a, vs, rfl, ?_, ?_, S, ι, e, h, ds, hC, rl, rs, hl, K⟩
        · rw [← hK, ← hC]; exact ht.sq
        · rw [rs.length, ← hl]; exact chkNms_length h1
      · cases q'
    | _ => cases q

/-! ### what is walked -/
def Wk (C : RC) (J : L2.It) (ds : List D) (ι : List Addr) (M : Addr → Prop) (H : Hp) : Prop := ∀ ι' M' H', Go ι M H ι' M' H' → ∀ i : Nat,
  (∀ d, ds[i]? = some d → J.go i H' ∧ ∀ x H3, J.yld i H' x H3 → Same H' H3 ∧ Rep C ι' M' H3 x d) ∧ (ds.length ≤ i → J.stop i H')
def tI (tb : Tb) (Φ : Nat → List D → MH → R D) (S : SC) (it : It) : TI := fun σ H R => ∃ ι e h, Rel S ι e h σ H ∧ ∃ ds h', evI tb Φ it e h = .ok ds h' ∧
  ∀ ι' H' J, Go ι (Mu S.M0 ι e σ) H ι' (Mu S.M0 ι' e σ) H' → Rel S ι' e h' σ H' → Wk S.C J ds ι' (Mu S.M0 ι' e σ) H' → R J H'
theorem PI.imp {X : Cx} {tg e : Expr} {t t' : TI} (h : PI X tg e t) (i : ∀ σ H R, t' σ H R → t σ H R) : PI X tg e t' := ⟨fun pins s σ H R I q => h.run pins s σ H R I (i σ H R q)⟩
def iSeq (K : PySem.W.Frag) (tl : TE) : TI := fun σ H R => tl σ H fun x H1 => ∃ a, x = .ref a ∧ ((∃ xs, SqL K H1 a xs ∧ R (Itl K a) H1) ∨ (∃ xs, SqT K H1 a xs ∧ R (Itt K a) H1))
theorem pi_seq {X : Cx} {tg l : Expr} {tl : TE} (hl : PE X l tl) : PI X tg l (iSeq X.K tl) := by
  refine ⟨fun pins s σ H R I h => ?_⟩
  refine thn (hl.run pins s σ H _ I h) fun v s1 ⟨x, H1, I1, r1, a, e, q1⟩ => ?_
  subst e
  cases r1
  have fin : ∀ b ∈ [s1.heap.objs.size], FpOk X pins H1 b := fun b hb => by
    have e : b = s1.heap.objs.size := by simpa using hb
    subst e
    exact I1.fpOk (Nat.le_refl _) (I1.hok.fresh (Nat.le_refl _))
  rcases q1 with ⟨xs, hq, q⟩ | ⟨xs, hq, q⟩
  · obtain ⟨its, rv, p, hz⟩ := I1.list hq
    refine wpAny_pyIter_list p.isList ?_
    exact ⟨s1.heap.objs.size, [s1.heap.objs.size], _, _, H1, rfl, I1.kept (t' := s1.toks) fun b o e => Heap.get?_push_of_some _ e, turn_list a _, ⟨_, Heap.get?_push_size _ rfl, rfl, rfl⟩, fin, q⟩
  · obtain ⟨its, rv, p, hz⟩ := I1.tuple hq
    refine wpAny_pyIter_tuple (show s1.heap.IsTuple a its.toArray from p) ?_
    exact ⟨s1.heap.objs.size, [s1.heap.objs.size], _, _, H1, rfl, I1.kept (t' := s1.toks) fun b o e => Heap.get?_push_of_some _ e, turn_tuple a _, ⟨_, Heap.get?_push_size _ rfl, rfl, rfl⟩, fin, q⟩
/-! dicts that stay: their one object is known -/
def FixAt (K : PySem.W.Frag) (a : Addr) (o : Obj) (H : Hp) : Prop := (∃ u, H a = some (.frz o u)) ∨ K.lookup a = some o
def Itf (K : PySem.W.Frag) (a : Addr) (o : Obj) (vs : List V) : L2.It :=
  ⟨fun i H => FixAt K a o H ∧ i < vs.length, fun i H y H' => H' = H ∧ vs[i]? = some y, fun i H => FixAt K a o H ∧ vs.length ≤ i⟩
theorem FixAt.get {X : Cx} {pins : List (Addr × Obj)} {σ : L2.St} {s : Shared} {H : Hp} {a : Addr} {o : Obj} (I : Inv X pins σ H s) (f : FixAt X.K a o H) : s.heap.get? a = some o := by
  rcases f with ⟨u, q⟩ | q
  · exact (show s.heap.get? a = some o ∧ _ from I.hok a _ q).1
  · exact I.kIn a o q
theorem turn_fix {P : Program} {w : World} {K : PySem.W.Frag} {tg : Expr} {a : Addr} {o : Obj} {es : Array DictEntry} {ep : Nat} {vs : List V} (c : Addr) (hod : o.data = .dict es ep) (hv : Vals vs (es.toList.map (·.key))) :
    Turn P w K tg (Itf K a o vs) [c] c (fun i h => h.IsKeyIter c a i vs.length ep) := by
  have hl : es.size = vs.length := by have := hv.length; simp at this; exact this.symm
  constructor
  case mem => simp
  case obj =>
    intro i h st b hb
    obtain rfl : b = c := by simpa using hb
    obtain ⟨ob, e, _, dd⟩ := st
    exact ⟨ob, e, fun v z => by rw [dd] at z; cases z⟩
  case keep => exact fun i h h' st k => st.at fun ob e => k c (by simp) ob e
  case item =>
    intro X hP hw hK hc i pins s σ H E I hf st hg
    subst hP hw hK
    obtain ⟨fx, hi⟩ := hg
    obtain ⟨n0, n1, n2, n3, n4, n5⟩ := hf c (by simp)
    have gd := fx.get I
    have hi' : i < es.size := by omega
    refine next_key_item st gd hod hl (Array.getElem?_eq_getElem hi') fun h' st' sb => ?_
    have I1 : Inv X pins σ H { s with heap := h' } := I.turned (t' := s.toks) (fun b ob hb e => (sb.2 b hb).trans e) n0 n1 n3 n4 n5
    obtain ⟨ob, e, cc, dd⟩ := id st'
    have hrel : RelV vs[i] es[i].key := by
      obtain ⟨u, h1, h2⟩ := paired_get hv (i := i) (List.getElem?_eq_getElem hi)
      rw [List.getElem?_map, Array.getElem?_toList, Array.getElem?_eq_getElem hi'] at h1
      cases h1
      exact h2
    exact ⟨es[i].key, rfl, go_of (s := { s with heap := h' }) e cc dd (by decide) ⟨vs[i], H, I1, hrel, ⟨rfl, List.getElem?_eq_getElem hi⟩, st', fun b hb => (hf b hb).1⟩⟩
  case done =>
    intro X hP hw hK hc i pins s σ H E I hf st hg
    subst hP hw hK
    obtain ⟨fx, hi⟩ := hg
    obtain ⟨n0, n1, n2, n3, n4, n5⟩ := hf c (by simp)
    exact next_key_end (I.ok.hd hc) st (fx.get I) hod hl hi fun h' eb => ⟨rfl, I.turned (t' := s.toks) (fun b ob hb e => eb b ob hb e) n0 n1 n3 n4 n5⟩
  case self => exact fun A i s Q E st q => wpAny_pyIter_keyiter st q
def iSeqD (X : Cx) (ca : Nat → Addr) (tl : TE) : TI := fun σ H R => tl σ H fun x H1 => (∃ a, x = .ref a ∧ ((∃ xs, SqL X.K H1 a xs ∧ R (Itl X.K a) H1) ∨ (∃ xs, SqT X.K H1 a xs ∧ R (Itt X.K a) H1))) ∨
  ∃ ι M a ds, x = .ref a ∧ Rep (cx X ca) ι M H1 (.ref a) (.dct ds) ∧ ∀ J, Wk (cx X ca) J (ds.map (·.1)) ι M H1 → R J H1
theorem pi_seqD {X : Cx} {ca : Nat → Addr} {tg l : Expr} {tl : TE} (hl : PE X l tl) : PI X tg l (iSeqD X ca tl) := by
  refine ⟨fun pins s σ H R I h => ?_⟩
  refine thn (hl.run pins s σ H _ I h) fun v s1 ⟨x, H1, I1, r1, q1⟩ => ?_
  rcases q1 with ⟨a, e, q1⟩ | ⟨ι, M, a, ds, e, rp, q⟩
  · subst e
    cases r1
    have fin : ∀ b ∈ [s1.heap.objs.size], FpOk X pins H1 b := fun b hb => by
      have e : b = s1.heap.objs.size := by simpa using hb
      subst e
      exact I1.fpOk (Nat.le_refl _) (I1.hok.fresh (Nat.le_refl _))
    rcases q1 with ⟨xs, hq, q⟩ | ⟨xs, hq, q⟩
    · obtain ⟨its, rv, p, hz⟩ := I1.list hq
      refine wpAny_pyIter_list p.isList ?_
      exact ⟨s1.heap.objs.size, [s1.heap.objs.size], _, _, H1, rfl, I1.kept (t' := s1.toks) fun b o e => Heap.get?_push_of_some _ e, turn_list a _, ⟨_, Heap.get?_push_size _ rfl, rfl, rfl⟩, fin, q⟩
    · obtain ⟨its, rv, p, hz⟩ := I1.tuple hq
      refine wpAny_pyIter_tuple (show s1.heap.IsTuple a its.toArray from p) ?_
      exact ⟨s1.heap.objs.size, [s1.heap.objs.size], _, _, H1, rfl, I1.kept (t' := s1.toks) fun b o e => Heap.get?_push_of_some _ e, turn_tuple a _, ⟨_, Heap.get?_push_size _ rfl, rfl, rfl⟩, fin, q⟩
  · subst e
    cases r1
    obtain ⟨lo, z, o, es, ep, h1, h2, h3, en⟩ := dct_raw I1 (rp.vw fun k z => nomatch z)
    obtain ⟨vs, hv, rs⟩ := en.keys
    have hl' : es.size = vs.length := by have := hv.length; simp at this; exact this.symm
    have fx : FixAt X.K a o H1 ∧ ∀ ι' M' H', Go ι M H1 ι' M' H' → FixAt X.K a o H' := by
      cases rp with
      | dctK m q _ =>
        have h1' := (show s1.heap.get? a = some _ ∧ _ from I1.hok a _ q).1
        rw [h1] at h1'
        cases h1'
        exact ⟨.inl ⟨_, q⟩, fun ι' M' H' g => .inl ⟨_, g.kept _ _ q m⟩⟩
      | dctT m q _ =>
        have h1' := (show s1.heap.get? a = some _ ∧ _ from I1.hok a _ q).1
        rw [h1] at h1'
        cases h1'
        exact ⟨.inl ⟨_, q⟩, fun ι' M' H' g => .inl ⟨_, g.kept _ _ q m⟩⟩
      | dctG q _ =>
        obtain ⟨es', n, hlk, _⟩ := q
        have := I1.kIn a _ hlk
        rw [h1] at this
        cases this
        exact ⟨.inr hlk, fun _ _ _ _ => .inr hlk⟩
    refine iter_keys lo h1 h2 h3 (pi_one (tk := s1.toks) I1 _ (turn_fix (a := a) (o := o) (K := X.K) _ h3 hv) ⟨_, Heap.get?_push_size _ rfl, rfl, ?_⟩ (q _ fun ι' M' H' g i => ⟨fun d hd => ?_, fun hi => ⟨fx.2 _ _ _ g, by rw [rs.length]; exact hi⟩⟩))
    · rw [hl'] <;> rfl
    · obtain ⟨v, q1, q2⟩ := rs.get hd
      refine ⟨⟨fx.2 _ _ _ g, ?_⟩, fun x H3 ⟨e1, e2⟩ => ?_⟩
      · by_cases w : i < vs.length
        · exact w
        · rw [List.getElem?_eq_none (by omega)] at q1; cases q1
      · subst e1
        rw [q1] at e2
        cases e2
        exact ⟨Same.rfl', q2.go g⟩
section
variable {tb : Tb} {Φ : Nat → List D → MH → R D} {x : Tx} {N : List Str} {j : Nat} {S : SC} {X : Cx} {sc : Scope} {e ea eb tg : Expr} {a b : M} {pos p : Pos} {y : Str}
theorem wk_lst {C : RC} {ι : List Addr} {M : Addr → Prop} {H : Hp} {ad : Addr} {vs : List V} {ds : List D} (m : ¬ M ad) (h : H ad = some (.lst vs)) (r : Reps C ι M H vs ds) : Wk C (Itl C.K ad) ds ι M H := fun ι' M' H' g i => by
  have hs : SqL C.K H' ad vs := SqL.of (g.kept _ _ h m)
  refine ⟨fun d hd => ?_, fun hi => ⟨vs, hs, by rw [r.length]; exact hi⟩⟩
  obtain ⟨v, h1, h2⟩ := r.get hd
  refine ⟨⟨vs, v, hs, h1⟩, fun x H3 ⟨e1, e2⟩ => ?_⟩
  subst e1
  refine ⟨Same.rfl', ?_⟩
  have := e2 vs hs
  rw [h1] at this
  cases this
  exact h2.go g
theorem wk_tup {C : RC} {ι : List Addr} {M : Addr → Prop} {H : Hp} {ad : Addr} {vs : List V} {ds : List D} (h : TupAt C M H ad vs) (r : Reps C ι M H vs ds) : Wk C (Itt C.K ad) ds ι M H := fun ι' M' H' g i => by
  have hs : SqT C.K H' ad vs := (h.go g).sq
  refine ⟨fun d hd => ?_, fun hi => ⟨vs, hs, by rw [r.length]; exact hi⟩⟩
  obtain ⟨v, h1, h2⟩ := r.get hd
  refine ⟨⟨vs, v, hs, h1⟩, fun x H3 ⟨e1, e2⟩ => ?_⟩
  subst e1
  refine ⟨Same.rfl', ?_⟩
  have := e2 vs hs
  rw [h1] at this
  cases this
  exact h2.go g
theorem rngL_get {lo hi : Int} {i : Nat} {d : D} (h : (rngL lo hi)[i]? = some d) : i < (hi - lo).toNat ∧ d = .int (lo + i) := by
  have hl : i < (rngL lo hi).length := by
    by_cases z : i < (rngL lo hi).length
    · exact z
    · rw [List.getElem?_eq_none (by omega)] at h; cases h
  have hl2 := hl
  rw [rng_len] at hl2
  refine ⟨hl2, ?_⟩
  unfold rngL at h
  rw [List.getElem?_map, List.getElem?_range hl2] at h
  cases h
  rfl
theorem wk_rng {C : RC} {ι : List Addr} {M : Addr → Prop} {H : Hp} {lo hi : Int} : Wk C (Itr lo (hi - lo).toNat) (rngL lo hi) ι M H := fun ι' M' H' g i => by
  refine ⟨fun d hd => ?_, fun hi => by rw [rng_len] at hi; exact hi⟩
  obtain ⟨h1, rfl⟩ := rngL_get hd
  refine ⟨h1, fun x H3 ⟨e1, e2⟩ => ?_⟩
  subst e1 e2
  exact ⟨Same.rfl', .int _⟩
theorem i_val (G : Gd tb Φ x N j S X) (ha : PE X ea (tO tb Φ S a)) : PI X tg ea (tI tb Φ S (.val a)) := by
  have hK : S.C.K = X.K := by rw [G.C]
  refine PI.imp (pi_seqD (ca := x.ca) ha) fun σ H R ⟨ι, e, h, rl, ds, h', eq, K⟩ => ?_
  obtain ⟨xo, h1, e1, eq⟩ := bind_ok eq
  obtain ⟨eq2, rfl⟩ := of_ok eq
  obtain ⟨dx, hx, ht⟩ := Option.bind_eq_some_iff.mp eq2
  refine ⟨ι, e, h, rl, xo, h', e1, fun ι1 H1 v1 g1 rl1 r1 => ?_⟩
  cases xo with
  | own i => cases hx
  | d d =>
    have r1' : Rep S.C ι1 (Mu S.M0 ι1 e σ) H1 v1 d := r1
    have hd : d = dx := by cases d <;> first | exact Option.some.inj hx | cases hx
    subst hd
    cases r1' with
    | @tup ad vs dd hp rs =>
      cases ht
      refine .inl ⟨ad, rfl, .inr ⟨vs, by rw [← hK]; exact hp.sq, ?_⟩⟩
      rw [← hK]
      exact K ι1 H1 _ g1 rl1 (wk_tup hp rs)
    | @lst ad vs dd m hp rs =>
      cases ht
      refine .inl ⟨ad, rfl, .inl ⟨vs, SqL.of hp, ?_⟩⟩
      rw [← hK]
      exact K ι1 H1 _ g1 rl1 (wk_lst m hp rs)
    | @dctK ad o kvs dd m hp rs => cases ht; exact .inr ⟨ι1, _, ad, dd, rfl, by rw [← G.C]; exact .dctK m hp rs, fun J w => K ι1 H1 J g1 rl1 (by rw [G.C]; exact w)⟩
    | @dctT ad o kvs dd m hp rs => cases ht; exact .inr ⟨ι1, _, ad, dd, rfl, by rw [← G.C]; exact .dctT m hp rs, fun J w => K ι1 H1 J g1 rl1 (by rw [G.C]; exact w)⟩
    | @dctG ad kvs dd hp rs => cases ht; exact .inr ⟨ι1, _, ad, dd, rfl, by rw [← G.C]; exact .dctG hp rs, fun J w => K ι1 H1 J g1 rl1 (by rw [G.C]; exact w)⟩
    | _ => cases ht
theorem i_rng {z : Str} {pz : Pos} (G : Gd tb Φ x N j S X) (hs : X.env.scope = sc) (h2 : glo1 x sc z "range" = true) (hp : plainA ea = true) (ha : PE X ea (tE tb Φ S a)) : PI X tg (.Call (.Name z pz) [ea] [] pos) (tI tb Φ S (.rng a)) := by
  obtain ⟨rfl, h5, h6⟩ := glo1_of h2
  refine PI.imp (pi_range1 (glB_of h5 hs) (G.tx.fre _ h6) (pa_cons ha pa_nil (plain_star hp)) (plain_star hp)) fun σ H R ⟨ι, e, h, rl, ds, h', eq, K⟩ => ?_
  obtain ⟨dx, h1, e1, eq⟩ := bind_ok eq
  refine ⟨ι, e, h, rl, dx, h1, e1, fun ι1 H1 v1 g1 rl1 r1 => ?_⟩
  cases r1 <;> first | (cases eq; done) | skip
  rename_i i
  obtain ⟨hc, eq⟩ := ite_ok (show (if rngOk i then MP.R.ok (rngL 0 i) h1 else .no) = MP.R.ok ds h' from eq)
  cases eq
  obtain ⟨b1, b2⟩ := rngOk_of hc
  have w := wk_rng (C := S.C) (ι := ι1) (M := Mu S.M0 ι1 e σ) (H := H1) (lo := 0) (hi := i)
  rw [Int.sub_zero] at w
  exact ⟨i, rfl, b1, b2, K ι1 H1 _ g1 rl1 w⟩
theorem i_rng2 {z : Str} {pz : Pos} (G : Gd tb Φ x N j S X) (hs : X.env.scope = sc) (h2 : glo1 x sc z "range" = true) (hp : plainA ea = true) (hp2 : plainA eb = true) (ha : PE X ea (tE tb Φ S a)) (hb : PE X eb (tE tb Φ S b)) : PI X tg (.Call (.Name z pz) [ea, eb] [] pos) (tI tb Φ S (.rng2 a b)) := by
  obtain ⟨rfl, h5, h6⟩ := glo1_of h2
  refine PI.imp (pi_range2 (glB_of h5 hs) (G.tx.fre _ h6) (pa_cons ha (pa_cons hb pa_nil (plain_star hp2)) (plain_star hp)) ((plain_star hp).trans (by rw [plain_star hp2]; rfl)) (plain_star hp2)) fun σ H R ⟨ι, e, h, rl, ds, h', eq, K⟩ => ?_
  obtain ⟨dx, h1, e1, e4⟩ := bind_ok eq
  obtain ⟨dy, h3, e3, e5⟩ := bind_ok e4
  clear eq e4
  refine ⟨ι, e, h, rl, dx, h1, e1, fun ι1 H1 v1 g1 rl1 r1 => ⟨ι1, e, h1, rl1, dy, h3, e3, fun ι2 H2 v2 g2 rl2 r2 => ?_⟩⟩
  cases r1 <;> first | (cases e5; done) | skip
  cases r2 <;> first | (cases e5; done) | skip
  rename_i i k
  obtain ⟨hc, eq⟩ := ite_ok (show (if (rngOk i && rngOk k) = true then MP.R.ok (rngL i k) h3 else .no) = MP.R.ok ds h' from e5)
  cases eq
  obtain ⟨c1, c2⟩ := and2 hc
  obtain ⟨b1, b2⟩ := rngOk_of c1
  obtain ⟨b3, b4⟩ := rngOk_of c2
  exact ⟨i, k, rfl, ⟨b1, b2, b3, b4⟩, K ι2 H2 _ (g1.trans g2) rl2 wk_rng⟩
end
end MP

set_option maxRecDepth 100000
set_option maxHeartbeats 1000000
/-! MP17: list comprehensions. -/
namespace MP
open PySem PySem.Spec PyProof.Rows L2

section
variable {S : SC} {ι ι1 ι' : List Addr} {e : Ev} {h h' h1 : MH} {σ : L2.St} {H H1 H' : Hp} {D : Addr} {o o' : HO}
/-- back from a block's scene -/
theorem Rel.unwipe {S0 : SC} {ws : List Nat} (hC : S0.C = S.C) (rl1 : Rel S0 ι1 e h1 σ H1) (no : noOwn e ws = true) (rl : Rel S ι' (wipeE e ws) h' (L2.wipe σ ws) H') (g : Go ι1 (Mu S0.M0 ι1 e σ) H1 ι' (Mu S.M0 ι' e σ) H') : Rel S ι' e h' σ H' := by
  have g' : Go ι' (Mu S.M0 ι' (wipeE e ws) (L2.wipe σ ws)) H' ι' (Mu S.M0 ι' e σ) H' := .less fun a m => (Mu.wipe no a).mpr m
  refine ⟨rl1.len, fun i d q => ?_, fun i d q => ?_, rl1.dist, rl.hl, rl.hd, fun n d q => ?_, rl.kept, rl.fresh, rl.pre, rl.mz⟩
  · obtain ⟨v, q1, q2⟩ := rl1.val i d q
    exact ⟨v, q1, by rw [← hC]; exact q2.go g⟩
  · have hi : i ∉ ws := fun z => noOwn_get no z q
    obtain ⟨a, q1, q2, q3, q4⟩ := rl.own i d (by rw [wipeE_get, if_neg hi]; exact q)
    rw [wipe_get, if_neg hi] at q1
    exact ⟨a, q1, q2, q3, q4.go g' fun _ z => z⟩
  · obtain ⟨a, q1, q2⟩ := rl.hp n d q
    exact ⟨a, q1, q2.go g' fun _ z => z⟩
end

/-- a loop that makes something, one turn for each of what is walked -/
theorem loop_ex {α : Type} {At : List Addr → α → MH → Hp → Prop} {F : D → α → MH → R α} {ds : List D} {J : L2.It} {Fin : Hp → Prop} {Body : V → Hp → (Hp → Prop) → Prop} {acc acc' : α} {h h' : MH} {H : Hp} {ι : List Addr}
    (h0 : At ι acc h H) (eq : turns F ds acc h = .ok acc' h')
    (step : ∀ ι acc h H (i : Nat) d acc' h', At ι acc h H → ds[i]? = some d → F d acc h = .ok acc' h' → J.go i H ∧ ∀ Nx : Hp → Prop, (∀ ι' H', At ι' acc' h' H' → Nx H') → ∀ x H', J.yld i H x H' → Body x H' Nx)
    (stop : ∀ ι acc h H, At ι acc h H → J.stop ds.length H) (fin : ∀ ι H, At ι acc' h' H → Fin H) :
    ∃ W : Nat → Nat → Hp → Prop, (∃ m, W 0 m H) ∧ ∀ i m H, W i m H → (J.stop i H ∧ Fin H) ∨ (J.go i H ∧ ∃ Nx : Hp → Prop, (∀ H', Nx H' → ∃ m', m' < m ∧ W (i + 1) m' H') ∧ ∀ x H', J.yld i H x H' → Body x H' Nx) := by
  refine ⟨fun i m H => m = ds.length - i ∧ i ≤ ds.length ∧ ∃ ι acc h, At ι acc h H ∧ turns F (ds.drop i) acc h = .ok acc' h', ⟨_, rfl, Nat.zero_le _, ι, acc, h, h0, eq⟩, ?_⟩
  rintro i m H ⟨rfl, hi, ι, acc, h, at_, eq⟩
  by_cases hlt : i < ds.length
  · rw [List.drop_eq_getElem_cons hlt] at eq
    obtain ⟨acc2, h2, e1, e2⟩ := bind_ok (show (F ds[i] acc h).bind (fun acc h => turns F (ds.drop (i + 1)) acc h) = .ok acc' h' from eq)
    obtain ⟨go, bd⟩ := step ι acc h H i _ _ _ at_ (List.getElem?_eq_getElem hlt) e1
    refine .inr ⟨go, fun H' => ∃ ι', At ι' acc2 h2 H', fun H' ⟨ι', q⟩ => ⟨ds.length - (i + 1), by omega, rfl, hlt, ι', acc2, h2, q, e2⟩, fun x H' y => bd _ (fun ι' H' q => ⟨ι', q⟩) x H' y⟩
  · have e : i = ds.length := by omega
    subst e
    rw [List.drop_length] at eq
    cases eq
    exact .inl ⟨stop ι _ _ H at_, fin ι H at_⟩

def xE (tb : Tb) (Φ : Nat → List D → MH → R D) (C : RC) (m : M) : TE := fun σ H Q => ∃ S, S.C = C ∧ tE tb Φ S m σ H Q
def xC (tb : Tb) (Φ : Nat → List D → MH → R D) (C : RC) (cs : Ts) : TT := fun σ H Q => ∃ S, S.C = C ∧ tCs tb Φ S cs σ H Q
def xI (tb : Tb) (Φ : Nat → List D → MH → R D) (C : RC) (it : It) : TI := fun σ H R => ∃ S, S.C = C ∧ tI tb Φ S it σ H R
theorem PE.ex {X : Cx} {e : Expr} {t : SC → TE} {P : SC → Prop} (h : ∀ S, P S → PE X e (t S)) : PE X e (fun σ H Q => ∃ S, P S ∧ t S σ H Q) := ⟨fun pins s σ H Q I ⟨S, p, q⟩ => (h S p).run pins s σ H Q I q⟩
theorem PTs.ex {X : Cx} {e : List Expr} {t : SC → TT} {P : SC → Prop} (h : ∀ S, P S → PTs X e (t S)) : PTs X e (fun σ H Q => ∃ S, P S ∧ t S σ H Q) := ⟨fun pins s σ H Q I ⟨S, p, q⟩ => (h S p).run pins s σ H Q I q⟩
theorem PI.ex {X : Cx} {tg e : Expr} {t : SC → TI} {P : SC → Prop} (h : ∀ S, P S → PI X tg e (t S)) : PI X tg e (fun σ H Q => ∃ S, P S ∧ t S σ H Q) := ⟨fun pins s σ H Q I ⟨S, p, q⟩ => (h S p).run pins s σ H Q I q⟩

section
variable {tb : Tb} {Φ : Nat → List D → MH → R D} {x : Tx} {N : List Str} {j : Nat} {S : SC} {X : Cx} {sc : Scope}
/-- a block's scene: D the list in the making, e and σ those around the block -/
structure AtD (S : SC) (D : Addr) (e : Ev) (σ : L2.St) (ws : List Nat) (ι1 : List Addr) (H1 : Hp) (ι : List Addr) (acc : List MP.D) (h : MH) (H : Hp) : Prop where
  ex : ∃ vs, Rel (SD S D (.lst vs)) ι (wipeE e ws) h (L2.wipe σ ws) H ∧ Go ι1 (Mu (fun a => S.M0 a ∨ a = D) ι1 e σ) (upd H1 D (.lst [])) ι (Mu (fun a => S.M0 a ∨ a = D) ι e σ) H ∧
    Reps S.C ι (Mu (fun a => S.M0 a ∨ a = D) ι e σ) H vs acc ∧ H D = some (.lst vs)
/-- a turn: store, tests, element -/
def fTurn (tb : Tb) (Φ : Nat → List D → MH → R D) (elt : M) (p : Pat) (cs : Ts) (eW : Ev) : D → List D → MH → R (List D) := fun d acc h => (match bindP p d eW with
  | some e' => (evC tb Φ cs e' h).bind fun b h => if b then (ev tb Φ elt e' h).bind fun y h => (if acc.length < lim then .ok (acc ++ [y]) h else .no) else .ok acc h
  | none => .no)
theorem lc_read {ws : List Nat} {elt : M} {p : Pat} {it : It} {cs : Ts} {σ : L2.St} {H : Hp} {Q : VK} (q : tF tb Φ S (.lc ws elt p it cs) σ H Q) : tLc (tI tb Φ S it) (tG tb S.C p) (xC tb Φ S.C cs) (xE tb Φ S.C elt) ws σ H Q := by
  obtain ⟨ι, e, h, rl, d, h', eq, K⟩ := q
  obtain ⟨hc, eq⟩ := ite_ok eq
  obtain ⟨no, pin⟩ := and2 hc
  obtain ⟨ds, h1, e1, eq⟩ := bind_ok eq
  obtain ⟨acc, h2, e2, eq⟩ := bind_ok eq
  cases eq
  refine ⟨ι, e, h, rl, ds, h1, e1, fun ι1 H1 J g1 rl1 wk D hD => ?_⟩
  have g0 : Go ι1 (Mu S.M0 ι1 e σ) H1 ι1 (Mu (fun a => S.M0 a ∨ a = D) ι1 e σ) (upd H1 D (.lst [])) := SD.go0 hD
  have hDi : D ∉ ι1 := rl1.notin hD
  have hD0 : D ∉ S.i0 := rl1.noti0 hD
  have muW : ∀ ι, Mu (fun a => S.M0 a ∨ a = D) ι (wipeE e ws) (L2.wipe σ ws) = Mu (fun a => S.M0 a ∨ a = D) ι e σ := fun ι => funext fun a => propext (Mu.wipe no a)
  have mem : ∀ {ι : List Addr} {H : Hp}, Go ι1 (Mu (fun a => S.M0 a ∨ a = D) ι1 e σ) (upd H1 D (.lst [])) ι (Mu (fun a => S.M0 a ∨ a = D) ι e σ) H → D ∉ ι := fun {ι H} g z => by
    rcases g.nw D z with w | w
    · exact hDi w
    · rw [upd_same] at w; cases w
  refine loop_ex (At := AtD S D e σ ws ι1 H1) (F := fTurn tb Φ elt p cs (wipeE e ws)) (acc := []) (acc' := acc) (h := h1) (h' := _) (ds := ds) (Fin := fun H => Q (.ref D) H) ⟨[], ?_, .refl, .nil, upd_same⟩ e2 ?_ ?_ ?_
  · exact SD.start (rl1.wipe no) hD
  · rintro ι2 acc2 h3 H2 i d acc3 h4 ⟨vs, rl2, g2, rs, hv⟩ hd ef
    obtain ⟨w1, _⟩ := wk _ _ _ (g0.trans g2) i
    obtain ⟨go, yl⟩ := w1 d hd
    refine ⟨go, fun Nx hN y H3 hy => ?_⟩
    obtain ⟨sm, ry⟩ := yl y H3 hy
    have ef : (match bindP p d (wipeE e ws) with
      | some e' => (evC tb Φ cs e' h3).bind fun b h => if b then (ev tb Φ elt e' h).bind fun y h => (if acc2.length < lim then R.ok (acc2 ++ [y]) h else .no) else .ok acc2 h
      | none => .no) = R.ok acc3 h4 := ef
    cases hb : bindP p d (wipeE e ws) with
    | none => rw [hb] at ef; cases ef
    | some e' =>
      rw [hb] at ef
      obtain ⟨b, h5, e5, ef⟩ := bind_ok ef
      refine ⟨SD S D (.lst vs), ι2, wipeE e ws, h3, d, e', rfl, rl2.grow sm, ?_, hb, fun σ2 rl3 ow hw => ?_⟩
      · show Rep S.C ι2 (Mu (fun a => S.M0 a ∨ a = D) ι2 (wipeE e ws) (L2.wipe σ ws)) H3 y d
        rw [muW]; exact ry
      · obtain ⟨a1, a2, a3⟩ := hw ws pin
        rw [wipe_wipe] at a1
        rw [wipeE_wipe] at a2
        have no' := a3 noOwn_wipe
        have mu2 : ∀ ι, Mu (fun a => S.M0 a ∨ a = D) ι e' σ2 = Mu (fun a => S.M0 a ∨ a = D) ι e σ := fun ι => by
          rw [← muW ι, ← a1, ← a2]
          exact (funext fun a => propext (Mu.wipe no' a)).symm
        refine ⟨a1, SD S D (.lst vs), rfl, ι2, e', h3, rl3, b, h5, e5, fun ι4 H4 g4 rl4 => ?_⟩
        have g4' : Go ι2 (Mu (fun a => S.M0 a ∨ a = D) ι2 e σ) H3 ι4 (Mu (fun a => S.M0 a ∨ a = D) ι4 e σ) H4 := by
          have := g4
          rw [show (SD S D (.lst vs)).M0 = fun a => S.M0 a ∨ a = D from rfl, mu2, mu2] at this
          exact this
        have gs : Go ι2 (Mu (fun a => S.M0 a ∨ a = D) ι2 e σ) H2 ι2 (Mu (fun a => S.M0 a ∨ a = D) ι2 e σ) H3 := .same sm
        cases b with
        | false =>
          cases ef
          refine hN ι4 H4 ⟨vs, ?_, g2.trans (gs.trans g4'), rs.go (gs.trans g4'), rl4.kept D _ upd_same hD0⟩
          have := rl4.wipe no'
          rw [a1, a2] at this
          exact this
        | true =>
          obtain ⟨y2, h6, e6, ef⟩ := bind_ok ef
          obtain ⟨hl, ef⟩ := ite_ok ef
          cases ef
          refine ⟨SD S D (.lst vs), rfl, ι4, e', h5, rl4, y2, _, e6, fun ι5 H5 v g5 rl5 r5 => ⟨vs, rl5.kept D _ upd_same hD0, by rw [rs.length]; exact Nat.lt_of_lt_of_le hl (by decide), ?_⟩⟩
          have g5' : Go ι4 (Mu (fun a => S.M0 a ∨ a = D) ι4 e σ) H4 ι5 (Mu (fun a => S.M0 a ∨ a = D) ι5 e σ) H5 := by
            have := g5
            rw [show (SD S D (.lst vs)).M0 = fun a => S.M0 a ∨ a = D from rfl, mu2, mu2] at this
            exact this
          have r5' : Rep S.C ι5 (Mu (fun a => S.M0 a ∨ a = D) ι5 e σ) H5 v y2 := by
            have := r5
            rw [show (SD S D (.lst vs)).M0 = fun a => S.M0 a ∨ a = D from rfl, mu2] at this
            exact this
          have ga := g2.trans (gs.trans (g4'.trans g5'))
          have gw : Go ι5 (Mu (fun a => S.M0 a ∨ a = D) ι5 e σ) H5 ι5 (Mu (fun a => S.M0 a ∨ a = D) ι5 e σ) (upd H5 D (.lst (vs ++ [v]))) := Go.write (.inl (.inr rfl))
          refine hN ι5 _ ⟨vs ++ [v], ?_, ga.trans gw, ((rs.go (gs.trans (g4'.trans g5'))).snoc r5').go gw, upd_same⟩
          have := rl5.wipe no'
          rw [a1, a2] at this
          exact SD.write this (mem ga)
  · rintro ι2 acc2 h3 H2 ⟨vs, rl2, g2, rs, hv⟩
    exact (wk _ _ _ (g0.trans g2) ds.length).2 (Nat.le_refl _)
  · rintro ι2 H2 ⟨vs, rl2, g2, rs, hv⟩
    have gt : Go ι1 (Mu S.M0 ι1 e σ) H1 ι2 (Mu (SP1 S D).M0 ι2 e σ) H2 := g0.trans g2
    have rlw : Rel (SP1 S D) ι2 (wipeE e ws) _ (L2.wipe σ ws) H2 := SD.toP (rl1.wipe no) hD rl2
    exact K ι2 H2 D (g1.back hD) (mem g2) (g1.trans gt) (Rel.unwipe (S0 := S) rfl rl1 no rlw gt) (.lst hv rs)
theorem e_lcF {ws : List Nat} {elt : M} {p : Pat} {it : It} {cs : Ts} {ee tg iter : Expr} {ifs : List Expr} {scope : Scope} {own : List (Str × Nat)} {pos : Pos} (G : Gd tb Φ x N j S X) (hi : PI X tg iter (tI tb Φ S it)) (ok : BlkOk X.N X.env.scope scope own) (hw : own.map (·.2) = ws)
    (hg : ∀ (s : Shared) (H : Hp) (C : Addr) (cl : List (Str × Addr)) (fp : List Addr), PG (X.blk s H scope (compEnvC scope cl C X.env) fp) tg (tG tb S.C p)) (ht : ∀ (s : Shared) (H : Hp) (C : Addr) (cl : List (Str × Addr)) (fp : List Addr), PTs (X.blk s H scope (compEnvC scope cl C X.env) fp) ifs (xC tb Φ S.C cs))
    (he : ∀ (s : Shared) (H : Hp) (C : Addr) (cl : List (Str × Addr)) (fp : List Addr), PE (X.blk s H scope (compEnvC scope cl C X.env) fp) ee (xE tb Φ S.C elt)) (hp : plainA iter = true) : PE X (.ListComp ee [⟨tg, iter, ifs, 0⟩] scope pos) (tF tb Φ S (.lc ws elt p it cs)) := by
  refine PE.imp (pe_lc G.calm (by rw [G.nm]; exact G.nd) hi ok hg ht he (plain_fold hp X.env)) fun σ H Q q => ?_
  rw [hw]
  exact lc_read q
end
end MP

set_option maxRecDepth 100000
set_option maxHeartbeats 1000000
/-! MP17b: dict displays, dict comprehensions. -/
namespace MP
open PySem PySem.Spec PyProof.Rows L2

theorem putK_nd {kvs : List (Key × V)} (nd : (kvs.map (·.1)).Nodup) (k : Key) (v : V) : ((putK kvs k v).map (·.1)).Nodup := by
  unfold putK
  split
  · have e : (kvs.map fun kv => if kv.1 = k then (kv.1, v) else kv).map (·.1) = kvs.map (·.1) := by
      rw [List.map_map]
      refine List.map_congr_left fun p _ => ?_
      show (if p.1 = k then (p.1, v) else p).1 = p.1
      split <;> rfl
    rw [e]; exact nd
  · rename_i h
    rw [List.map_append, List.nodup_append]
    refine ⟨nd, by simp, fun a ha b hb => ?_⟩
    have hb' : b = k := by simpa using hb
    subst hb'
    obtain ⟨p, hp, rfl⟩ := List.mem_map.mp ha
    exact fun z => h (List.any_eq_true.mpr ⟨p, hp, decide_eq_true z⟩)
theorem RepKs.merge {C : RC} {ι : List Addr} {M : Addr → Prop} {H : Hp} : ∀ {ds : List (D × D)} {kvs acc : List (Key × V)} {ad : List (D × D)}, RepKs C ι M H acc ad → (acc.map (·.1)).Nodup → RepKs C ι M H kvs ds → RepKs C ι M H (mergeK acc kvs) (ds.foldl (fun a p => dput a p.1 p.2) ad)
  | _, _, _, _, ra, nd, .nil => ra
  | _, _, acc, ad, ra, nd, @RepKs.cons _ _ _ _ k v vs d ds h r => RepKs.merge (acc := putK acc k v) (ad := dput ad (kD k) d) (ra.put k h nd) (putK_nd nd _ _) r
section
variable {tb : Tb} {Φ : Nat → List D → MH → R D} {x : Tx} {N : List Str} {j : Nat} {S : SC} {X : Cx} {sc : Scope} {pos : Pos}
def kvTrs (tb : Tb) (Φ : Nat → List D → MH → R D) (C : RC) : Kvs → List (TE × TE)
  | .nil => []
  | .cons k v l => (xE tb Φ C k, xE tb Φ C v) :: kvTrs tb Φ C l
theorem evd_read : ∀ (l : Kvs) {S : SC} {e : Ev} {h h' : MH} {σ : L2.St} {H : Hp} {ι : List Addr} {acc : List (D × D)} {d : D} {Q : List (V × V) → Hp → Prop}, Rel S ι e h σ H → evd tb Φ l e acc h = .ok d h' →
    (∀ ι2 H2 kvs ds, Go ι (Mu S.M0 ι e σ) H ι2 (Mu S.M0 ι2 e σ) H2 → Rel S ι2 e h' σ H2 → RepKs S.C ι2 (Mu S.M0 ι2 e σ) H2 kvs ds → d = .dct (ds.foldl (fun a p => dput a p.1 p.2) acc) → kvs.length = l.len → Q (kvs.map fun kv => (kV kv.1, kv.2)) H2) → tPairs (kvTrs tb Φ S.C l) σ H Q
  | .nil, S, e, h, h', σ, H, ι, acc, d, Q, rl, eq, K => by cases eq; exact K ι H [] [] .refl rl .nil rfl rfl
  | .cons k v l, S, e, h, h', σ, H, ι, acc, d, Q, rl, eq, K => by
    obtain ⟨dx, h1, e1, eq⟩ := bind_ok eq
    obtain ⟨dy, h2, e2, eq⟩ := bind_ok eq
    obtain ⟨hk, eq⟩ := ite_ok eq
    refine ⟨S, rfl, ι, e, h, rl, dx, h1, e1, fun ι1 H1 v1 g1 rl1 r1 => ⟨S, rfl, ι1, e, h1, rl1, dy, h2, e2, fun ι2 H2 v2 g2 rl2 r2 => ?_⟩⟩
    obtain ⟨key, rfl, rfl⟩ := key_of_kk r1 (beq_iff_eq.mp hk)
    exact evd_read l rl2 eq fun ι3 H3 kvs ds g3 rl3 rk ed hl => K ι3 H3 ((key, v2) :: kvs) ((kD key, dy) :: ds) (g1.trans (g2.trans g3)) rl3 (.cons (r2.go g3) rk) ed (congrArg (· + 1) hl)
theorem mem_new {ι ι2 : List Addr} {M M2 : Addr → Prop} {H H2 : Hp} {p : Addr} {o : HO} (ni : p ∉ ι) (g : Go ι M (upd H p o) ι2 M2 H2) : p ∉ ι2 := fun z => by
  rcases g.nw p z with w | w
  · exact ni w
  · rw [upd_same] at w; cases w
theorem e_dctF {l : Kvs} {keys : List (Option Expr)} {values : List Expr} (hp : PPs X pos keys values (kvTrs tb Φ S.C l)) (hall : keys.all (·.isSome) = true) (hl : keys.length = values.length) (h0 : keys ≠ []) (h15 : keys.length ≤ 15) (hn : l.len = keys.length) : PE X (.Dict keys values pos) (tF tb Φ S (.dct l)) := by
  refine PE.imp (pe_disp hp hall hl h0 h15) fun σ H Q ⟨ι, e, h, rl, d, h', eq, K⟩ p hp => ?_
  have g0 : Go ι (Mu S.M0 ι e σ) H ι (Mu (SD S p (.dK [])).M0 ι e σ) (upd H p (.dK [])) := SD.go0 hp
  refine evd_read (S := SD S p (.dK [])) l (SD.start rl hp) eq fun ι2 H2 kvs ds g2 rl2 rk ed hlen => ?_
  have ni : p ∉ ι2 := mem_new (rl.notin hp) g2
  have gw : Go ι2 (Mu (SD S p (.dK [])).M0 ι2 e σ) H2 ι2 (Mu (SP1 S p).M0 ι2 e σ) (upd H2 p (.dK (mergeK [] kvs))) := Go.write (.inl (.inr rfl))
  refine ⟨rl2.kept p _ upd_same (rl.noti0 hp), kvs, rfl, by omega, ?_⟩
  rw [ed] at K
  exact K ι2 _ p hp ni (g0.trans (g2.trans gw)) (SD.toP rl hp (SD.write rl2 ni)) (.dctK upd_same ((RepKs.merge .nil List.nodup_nil rk).go gw))
theorem e_dct0F : PE X (.Dict [] [] pos) (tF tb Φ S (.dct .nil)) :=
  PE.imp pe_dnewK fun σ H Q ⟨ι, e, h, rl, d, h', eq, K⟩ p hp => by
    cases eq
    exact K ι _ p hp (rl.notin hp) (goNew hp) (rl.plusNew hp) (.dctK upd_same .nil)
/-- a block's scene: D the dict in the making -/
structure AtK (S : SC) (D : Addr) (e : Ev) (σ : L2.St) (ws : List Nat) (ι1 : List Addr) (H1 : Hp) (ι : List Addr) (acc : List (MP.D × MP.D)) (h : MH) (H : Hp) : Prop where
  ex : ∃ kvs, Rel (SD S D (.dK kvs)) ι (wipeE e ws) h (L2.wipe σ ws) H ∧ Go ι1 (Mu (fun a => S.M0 a ∨ a = D) ι1 e σ) (upd H1 D (.dK [])) ι (Mu (fun a => S.M0 a ∨ a = D) ι e σ) H ∧
    RepKs S.C ι (Mu (fun a => S.M0 a ∨ a = D) ι e σ) H kvs acc ∧ (kvs.map (·.1)).Nodup ∧ H D = some (.dK kvs)
def kTurn (tb : Tb) (Φ : Nat → List D → MH → R D) (k v : M) (p : Pat) (cs : Ts) (eW : Ev) : D → List (D × D) → MH → R (List (D × D)) := fun d acc h => (match bindP p d eW with
  | some e' => (evC tb Φ cs e' h).bind fun b h => if b then (ev tb Φ k e' h).bind fun x h => (ev tb Φ v e' h).bind fun y h => (if kk x == 0 && decide (acc.length < lim) then .ok (dput acc x y) h else .no) else .ok acc h
  | none => .no)
theorem dc_read {ws : List Nat} {k v : M} {p : Pat} {it : It} {cs : Ts} {σ : L2.St} {H : Hp} {Q : VK} (q : tF tb Φ S (.dc ws k v p it cs) σ H Q) : tDc (tI tb Φ S it) (tG tb S.C p) (xC tb Φ S.C cs) (xE tb Φ S.C k) (xE tb Φ S.C v) ws σ H Q := by
  obtain ⟨ι, e, h, rl, d, h', eq, K⟩ := q
  obtain ⟨hc, eq⟩ := ite_ok eq
  obtain ⟨no, pin⟩ := and2 hc
  obtain ⟨ds, h1, e1, eq⟩ := bind_ok eq
  obtain ⟨acc, h2, e2, eq⟩ := bind_ok eq
  cases eq
  refine ⟨ι, e, h, rl, ds, h1, e1, fun ι1 H1 J g1 rl1 wk D hD => ?_⟩
  have g0 : Go ι1 (Mu S.M0 ι1 e σ) H1 ι1 (Mu (fun a => S.M0 a ∨ a = D) ι1 e σ) (upd H1 D (.dK [])) := SD.go0 hD
  have hDi : D ∉ ι1 := rl1.notin hD
  have hD0 : D ∉ S.i0 := rl1.noti0 hD
  have muW : ∀ ι, Mu (fun a => S.M0 a ∨ a = D) ι (wipeE e ws) (L2.wipe σ ws) = Mu (fun a => S.M0 a ∨ a = D) ι e σ := fun ι => funext fun a => propext (Mu.wipe no a)
  refine loop_ex (At := AtK S D e σ ws ι1 H1) (F := kTurn tb Φ k v p cs (wipeE e ws)) (acc := []) (acc' := acc) (h := h1) (h' := _) (ds := ds) (Fin := fun H => Q (.ref D) H) ⟨[], ?_, .refl, .nil, List.nodup_nil, upd_same⟩ e2 ?_ ?_ ?_
  · exact SD.start (rl1.wipe no) hD
  · rintro ι2 acc2 h3 H2 i d acc3 h4 ⟨kvs, rl2, g2, rs, nd, hv⟩ hd ef
    obtain ⟨w1, _⟩ := wk _ _ _ (g0.trans g2) i
    obtain ⟨go, yl⟩ := w1 d hd
    refine ⟨go, fun Nx hN y H3 hy => ?_⟩
    obtain ⟨sm, ry⟩ := yl y H3 hy
    have ef : (match bindP p d (wipeE e ws) with
      | some e' => (evC tb Φ cs e' h3).bind fun b h => if b then (ev tb Φ k e' h).bind fun x h => (ev tb Φ v e' h).bind fun y h => (if kk x == 0 && decide (acc2.length < lim) then R.ok (dput acc2 x y) h else .no) else .ok acc2 h
      | none => .no) = R.ok acc3 h4 := ef
    cases hb : bindP p d (wipeE e ws) with
    | none => rw [hb] at ef; cases ef
    | some e' =>
      rw [hb] at ef
      obtain ⟨b, h5, e5, ef⟩ := bind_ok ef
      refine ⟨SD S D (.dK kvs), ι2, wipeE e ws, h3, d, e', rfl, rl2.grow sm, ?_, hb, fun σ2 rl3 ow hw => ?_⟩
      · show Rep S.C ι2 (Mu (fun a => S.M0 a ∨ a = D) ι2 (wipeE e ws) (L2.wipe σ ws)) H3 y d
        rw [muW]; exact ry
      · obtain ⟨a1, a2, a3⟩ := hw ws pin
        rw [wipe_wipe] at a1
        rw [wipeE_wipe] at a2
        have no' := a3 noOwn_wipe
        have mu2 : ∀ ι, Mu (fun a => S.M0 a ∨ a = D) ι e' σ2 = Mu (fun a => S.M0 a ∨ a = D) ι e σ := fun ι => by
          rw [← muW ι, ← a1, ← a2]
          exact (funext fun a => propext (Mu.wipe no' a)).symm
        have gm : ∀ {ι2 ι4 : List Addr} {H3 H4 : Hp}, Go ι2 (Mu (SD S D (.dK kvs)).M0 ι2 e' σ2) H3 ι4 (Mu (SD S D (.dK kvs)).M0 ι4 e' σ2) H4 → Go ι2 (Mu (fun a => S.M0 a ∨ a = D) ι2 e σ) H3 ι4 (Mu (fun a => S.M0 a ∨ a = D) ι4 e σ) H4 := fun g => by
          have := g
          rw [show (SD S D (.dK kvs)).M0 = fun a => S.M0 a ∨ a = D from rfl, mu2, mu2] at this
          exact this
        have back : ∀ {ι4 : List Addr} {h : MH} {H4 : Hp}, Rel (SD S D (.dK kvs)) ι4 e' h σ2 H4 → Rel (SD S D (.dK kvs)) ι4 (wipeE e ws) h (L2.wipe σ ws) H4 := fun r => by
          have := r.wipe no'
          rw [a1, a2] at this
          exact this
        refine ⟨a1, SD S D (.dK kvs), rfl, ι2, e', h3, rl3, b, h5, e5, fun ι4 H4 g4 rl4 => ?_⟩
        have gs : Go ι2 (Mu (fun a => S.M0 a ∨ a = D) ι2 e σ) H2 ι2 (Mu (fun a => S.M0 a ∨ a = D) ι2 e σ) H3 := .same sm
        cases b with
        | false =>
          cases ef
          exact hN ι4 H4 ⟨kvs, back rl4, g2.trans (gs.trans (gm g4)), rs.go (gs.trans (gm g4)), nd, rl4.kept D _ upd_same hD0⟩
        | true =>
          obtain ⟨dx, h6, e6, ef⟩ := bind_ok ef
          obtain ⟨dy, h7, e7, ef⟩ := bind_ok ef
          obtain ⟨hk, ef⟩ := ite_ok ef
          obtain ⟨hk, hl⟩ := and2 hk
          cases ef
          refine ⟨SD S D (.dK kvs), rfl, ι4, e', h5, rl4, dx, _, e6, fun ι5 H5 vk g5 rl5 r5 => ⟨SD S D (.dK kvs), rfl, ι5, e', h6, rl5, dy, _, e7, fun ι6 H6 vv g6 rl6 r6 => ?_⟩⟩
          obtain ⟨key, rfl, rfl⟩ := key_of_kk r5 (beq_iff_eq.mp hk)
          have r6' : Rep S.C ι6 (Mu (fun a => S.M0 a ∨ a = D) ι6 e σ) H6 vv dy := by
            have := r6
            rw [show (SD S D (.dK kvs)).M0 = fun a => S.M0 a ∨ a = D from rfl, mu2] at this
            exact this
          have ga := g2.trans (gs.trans ((gm g4).trans ((gm g5).trans (gm g6))))
          have gw : Go ι6 (Mu (fun a => S.M0 a ∨ a = D) ι6 e σ) H6 ι6 (Mu (fun a => S.M0 a ∨ a = D) ι6 e σ) (upd H6 D (.dK (putK kvs key vv))) := Go.write (.inl (.inr rfl))
          refine ⟨kvs, key, rfl, rl6.kept D _ upd_same hD0, by rw [rs.length]; exact Nat.lt_of_lt_of_le (of_decide_eq_true hl) (by decide), ?_⟩
          exact hN ι6 _ ⟨putK kvs key vv, SD.write (back rl6) (mem_new hDi ga), ga.trans gw, ((rs.go (gs.trans ((gm g4).trans ((gm g5).trans (gm g6))))).put key r6' nd).go gw, putK_nd nd _ _, upd_same⟩
  · rintro ι2 acc2 h3 H2 ⟨kvs, rl2, g2, rs, nd, hv⟩
    exact (wk _ _ _ (g0.trans g2) ds.length).2 (Nat.le_refl _)
  · rintro ι2 H2 ⟨kvs, rl2, g2, rs, nd, hv⟩
    have gt : Go ι1 (Mu S.M0 ι1 e σ) H1 ι2 (Mu (SP1 S D).M0 ι2 e σ) H2 := g0.trans g2
    have rlw : Rel (SP1 S D) ι2 (wipeE e ws) _ (L2.wipe σ ws) H2 := SD.toP (rl1.wipe no) hD rl2
    exact K ι2 H2 D (g1.back hD) (mem_new hDi g2) (g1.trans gt) (Rel.unwipe (S0 := S) rfl rl1 no rlw gt) (.dctK hv rs)
theorem e_dcF {ws : List Nat} {k v : M} {p : Pat} {it : It} {cs : Ts} {ke ve tg iter : Expr} {ifs : List Expr} {scope : Scope} {own : List (Str × Nat)} (G : Gd tb Φ x N j S X) (hi : PI X tg iter (tI tb Φ S it)) (ok : BlkOk X.N X.env.scope scope own) (hw : own.map (·.2) = ws)
    (hg : ∀ (s : Shared) (H : Hp) (C : Addr) (cl : List (Str × Addr)) (fp : List Addr), PG (X.blk s H scope (compEnvC scope cl C X.env) fp) tg (tG tb S.C p)) (ht : ∀ (s : Shared) (H : Hp) (C : Addr) (cl : List (Str × Addr)) (fp : List Addr), PTs (X.blk s H scope (compEnvC scope cl C X.env) fp) ifs (xC tb Φ S.C cs))
    (hk : ∀ (s : Shared) (H : Hp) (C : Addr) (cl : List (Str × Addr)) (fp : List Addr), PE (X.blk s H scope (compEnvC scope cl C X.env) fp) ke (xE tb Φ S.C k)) (hv : ∀ (s : Shared) (H : Hp) (C : Addr) (cl : List (Str × Addr)) (fp : List Addr), PE (X.blk s H scope (compEnvC scope cl C X.env) fp) ve (xE tb Φ S.C v)) (hp : plainA iter = true) : PE X (.DictComp ke ve [⟨tg, iter, ifs, 0⟩] scope pos) (tF tb Φ S (.dc ws k v p it cs)) := by
  refine PE.imp (pe_dc G.calm (by rw [G.nm]; exact G.nd) hi ok hg ht hk hv (plain_fold hp X.env)) fun σ H Q q => ?_
  rw [hw]
  exact dc_read q
end
end MP

set_option maxRecDepth 100000
set_option maxHeartbeats 1000000
/-! MP18: what the checker has seen. -/
namespace MP
open PySem PySem.Spec PyProof.Rows L2

section
variable {tb : Tb} {Φ : Nat → List D → MH → R D} {x : Tx} {N : List Str} {j : Nat}
theorem Gd.sc {S S' : SC} {X : Cx} (G : Gd tb Φ x N j S X) (h : S'.C = S.C) : Gd tb Φ x N j S' X := ⟨h.trans G.C, G.calm, G.nm, G.nd, G.hu, by rw [h]; exact G.tx, by rw [h]; exact G.fn, G.room⟩
theorem Gd.blk {S : SC} {X : Cx} (G : Gd tb Φ x N j S X) (s : Shared) (H : Hp) (scope : Scope) (cenv : Env) (fp : List Addr) : Gd tb Φ x N j S (X.blk s H scope cenv fp) := ⟨G.C, G.calm, G.nm, G.nd, G.hu, G.tx, G.fn, G.room⟩
theorem blk_loc {X : Cx} {s : Shared} {H : Hp} {scope : Scope} {C : Addr} {cl : List (Str × Addr)} {fp : List Addr} (y : Str) (h : locB scope y = true) :
    Loc (X.blk s H scope (compEnvC scope cl C X.env) fp).env.scope y ∧ ((X.blk s H scope (compEnvC scope cl C X.env) fp).fn y = true ∨ (X.blk s H scope (compEnvC scope cl C X.env) fp).env.scope.names.lookup y = some .local) := by
  have hsc : (X.blk s H scope (compEnvC scope cl C X.env) fp).env.scope = relS scope X.env.scope := rfl
  unfold locB at h
  split at h
  · rename_i q
    have := lookup_relS_keep (sc := X.env.scope) (by decide) q
    exact ⟨.inl this, .inr this⟩
  · rename_i q
    have := lookup_relS_keep (sc := X.env.scope) (by decide) q
    refine ⟨.inr this, .inl ?_⟩
    show (scope.names.lookup y == some .cell) = true
    rw [q]; decide
  · cases h
theorem po_of {S : SC} {X : Cx} {sc : Scope} {m : M} {e : Expr} (G : Gd tb Φ x N j S X) (hs : X.env.scope = sc) (h : chk x N sc m e = true) (pe : PE X e (tE tb Φ S m)) : PE X e (tO tb Φ S m) := by
  cases m with
  | var i =>
    cases e <;> first | (cases h; done) | skip
    obtain ⟨h1, h2, h3⟩ := and3 h
    exact e_var G hs (of_decide_eq_true h1) h2 h3
  | _ => exact e_o pe fun _ _ _ => rfl
theorem ownL_snd (N : List Str) (ws : List Nat) : (ownL N ws).map (·.2) = ws := by
  unfold ownL
  rw [List.map_map]
  exact (List.map_congr_left fun _ _ => rfl).trans (List.map_id ws)


/-! what the checker has seen, form by form -/
section
variable {sc : Scope} {e : Expr}
theorem i_var {i : Nat} (h : chk x N sc (.var i) e = true) : ∃ y p, e = .Name y p ∧ N[i]? = some y ∧ visB sc y = true ∧ dbgOk y = true := by
  cases e <;> first | (cases h; done) | skip
  obtain ⟨h1, h2, h3⟩ := and3 h
  exact ⟨_, _, rfl, of_decide_eq_true h1, h2, h3⟩
theorem i_cst {d : D} (h : chk x N sc (.cst d) e = true) : ∃ c k p, e = .Constant c k p ∧ isC c d = true := by
  cases e <;> first | (cases h; done) | skip
  exact ⟨_, _, _, rfl, h⟩
theorem i_glo {g : Nat} (h : chk x N sc (.glo g) e = true) : ∃ y p, e = .Name y p ∧ x.glN g = some y ∧ glB sc y = true ∧ dbgOk y = true := by
  cases e <;> first | (cases h; done) | skip
  obtain ⟨h1, h2, h3⟩ := and3 h
  exact ⟨_, _, rfl, of_decide_eq_true h1, h2, h3⟩
theorem i_bin {op : Bop} {a b : M} (h : chk x N sc (.bin op a b) e = true) : ∃ ea eb p, e = .BinOp ea (bopOf op) eb p ∧ chk x N sc a ea = true ∧ chk x N sc b eb = true := by
  cases e <;> first | (cases h; done) | skip
  obtain ⟨h1, h2, h3⟩ := and3 h
  have e1 := of_decide_eq_true h1
  subst e1
  exact ⟨_, _, _, rfl, h2, h3⟩
theorem i_neg {a : M} (h : chk x N sc (.neg a) e = true) : ∃ ea p, e = .UnaryOp .USub ea p ∧ chk x N sc a ea = true := by
  cases e <;> first | (cases h; done) | skip
  rename_i op ea pos
  cases op <;> first | (cases h; done) | skip
  exact ⟨_, _, rfl, h⟩
theorem i_cmp {op : Cop} {a b : M} (h : chk x N sc (.cmp op a b) e = true) : ∃ ea eb p, e = .Compare ea [copOf op] [eb] p ∧ plainA eb = true ∧ chk x N sc a ea = true ∧ chk x N sc b eb = true := by
  cases e <;> first | (cases h; done) | skip
  rename_i ea os es pos
  rcases os with _ | ⟨o, _ | ⟨o2, r⟩⟩ <;> rcases es with _ | ⟨eb, _ | ⟨ec, r2⟩⟩ <;> first | (cases h; done) | skip
  · obtain ⟨h0, h3⟩ := and2 h
    obtain ⟨h1, h2, h4⟩ := and3 h0
    have e1 := of_decide_eq_true h1
    subst e1
    exact ⟨_, _, _, rfl, h2, h4, h3⟩
  all_goals (rcases r with _ | ⟨o3, r⟩ <;> rcases r2 with _ | ⟨e3, r2⟩ <;> cases h)
theorem i_chn {op op' : Cop} {a b c : M} (h : chk x N sc (.chn op op' a b c) e = true) : ∃ ea eb ec p, e = .Compare ea [copOf op, copOf op'] [eb, ec] p ∧ plainA ec = true ∧ chk x N sc a ea = true ∧ chk x N sc b eb = true ∧ chk x N sc c ec = true := by
  cases e <;> first | (cases h; done) | skip
  rename_i ea os es pos
  rcases os with _ | ⟨o, _ | ⟨o2, _ | ⟨o3, r⟩⟩⟩ <;> rcases es with _ | ⟨eb, _ | ⟨ec, _ | ⟨e3, r2⟩⟩⟩ <;> first | (cases h; done) | skip
  obtain ⟨h0, h5⟩ := and2 h
  obtain ⟨h0, h4⟩ := and2 h0
  obtain ⟨h0, h3⟩ := and2 h0
  obtain ⟨h1, h1', h2⟩ := and3 h0
  have e1 := of_decide_eq_true h1
  have e2 := of_decide_eq_true h1'
  subst e1 e2
  exact ⟨_, _, _, _, rfl, h2, h3, h4, h5⟩
theorem i_and {a b : M} (h : chk x N sc (.andd a b) e = true) : ∃ ea eb r p, e = .BoolOp .And (ea :: eb :: r) p ∧ chk x N sc a ea = true ∧ ((r = [] ∧ chk x N sc b eb = true) ∨ chk x N sc b (.BoolOp .And (eb :: r) p) = true) := by
  cases e <;> first | (cases h; done) | skip
  rename_i op es p
  cases op <;> first | (cases h; done) | skip
  rcases es with _ | ⟨ea, _ | ⟨eb, _ | ⟨ec, r⟩⟩⟩ <;> first | (cases h; done) | skip
  · obtain ⟨h1, h2⟩ := and2 h
    exact ⟨_, _, _, _, rfl, h1, .inl ⟨rfl, h2⟩⟩
  · obtain ⟨h1, h2⟩ := and2 h
    exact ⟨_, _, _, _, rfl, h1, .inr h2⟩
theorem i_or {a b : M} (h : chk x N sc (.orr a b) e = true) : ∃ ea eb r p, e = .BoolOp .Or (ea :: eb :: r) p ∧ chk x N sc a ea = true ∧ ((r = [] ∧ chk x N sc b eb = true) ∨ chk x N sc b (.BoolOp .Or (eb :: r) p) = true) := by
  cases e <;> first | (cases h; done) | skip
  rename_i op es p
  cases op <;> first | (cases h; done) | skip
  rcases es with _ | ⟨ea, _ | ⟨eb, _ | ⟨ec, r⟩⟩⟩ <;> first | (cases h; done) | skip
  · obtain ⟨h1, h2⟩ := and2 h
    exact ⟨_, _, _, _, rfl, h1, .inl ⟨rfl, h2⟩⟩
  · obtain ⟨h1, h2⟩ := and2 h
    exact ⟨_, _, _, _, rfl, h1, .inr h2⟩
theorem i_not {a : M} (h : chk x N sc (.nott a) e = true) : ∃ ea p, e = .UnaryOp .Not ea p ∧ chk x N sc a ea = true := by
  cases e <;> first | (cases h; done) | skip
  rename_i op ea pos
  cases op <;> first | (cases h; done) | skip
  exact ⟨_, _, rfl, h⟩
theorem i_tup {l : Ms} (h : chk x N sc (.tup l) e = true) : ∃ es k p, e = .Tuple es k p ∧ chkL x N sc l es = true := by
  cases e <;> first | (cases h; done) | skip
  exact ⟨_, _, _, rfl, h⟩
theorem i_lst {l : Ms} (h : chk x N sc (.lst l) e = true) : ∃ es p, e = .List es p ∧ chkL x N sc l es = true := by
  cases e <;> first | (cases h; done) | skip
  exact ⟨_, _, rfl, h⟩
theorem i_idx {a b : M} (h : chk x N sc (.idx a b) e = true) : ∃ ea eb p, e = .Subscript ea eb p ∧ plainA eb = true ∧ chk x N sc a ea = true ∧ chk x N sc b eb = true := by
  cases e <;> first | (cases h; done) | skip
  obtain ⟨h1, h2, h3⟩ := and3 h
  exact ⟨_, _, _, rfl, h1, h2, h3⟩
theorem i_slc {a : M} {lo hi : Mo} (h : chk x N sc (.slc a lo hi) e = true) : ∃ ea el eh p2 p, e = .Subscript ea (.Slice el eh none p2) p ∧ chk x N sc a ea = true ∧ chkO x N sc lo el = true ∧ chkO x N sc hi eh = true := by
  cases e <;> first | (cases h; done) | skip
  rename_i ea sl p
  cases sl <;> first | (cases h; done) | skip
  rename_i el eh st p2
  cases st <;> first | (cases h; done) | skip
  obtain ⟨h1, h2, h3⟩ := and3 h
  exact ⟨_, _, _, _, _, rfl, h1, h2, h3⟩
theorem i_att {a : M} {f : Str} (h : chk x N sc (.att a f) e = true) : ∃ ea p, e = .Attribute ea f p ∧ baseP ea = true ∧ chk x N sc a ea = true := by
  cases e <;> first | (cases h; done) | skip
  obtain ⟨h1, h2, h3⟩ := and3 h
  have e1 := of_decide_eq_true h1
  subst e1
  exact ⟨_, _, rfl, h2, h3⟩
theorem i_call {f : Nat} {l : Ms} (h : chk x N sc (.call f l) e = true) : ∃ y p es pos, e = .Call (.Name y p) es [] pos ∧ x.fnN f = some y ∧ glB sc y = true ∧ dbgOk y = true ∧ chkL x N sc l es = true := by
  cases e <;> first | (cases h; done) | skip
  rename_i fn es ks pos
  cases fn <;> first | (cases h; done) | skip
  cases ks <;> first | (cases h; done) | skip
  obtain ⟨h0, h4⟩ := and2 h
  obtain ⟨h1, h2, h3⟩ := and3 h0
  exact ⟨_, _, _, _, rfl, of_decide_eq_true h1, h2, h3, h4⟩
theorem i_mk {c : Nat} {l : Ms} (h : chk x N sc (.mk c l) e = true) : ∃ y p es pos, e = .Call (.Name y p) es [] pos ∧ x.clN c = some y ∧ glB sc y = true ∧ dbgOk y = true ∧ chkL x N sc l es = true := by
  cases e <;> first | (cases h; done) | skip
  rename_i fn es ks pos
  cases fn <;> first | (cases h; done) | skip
  cases ks <;> first | (cases h; done) | skip
  obtain ⟨h0, h4⟩ := and2 h
  obtain ⟨h1, h2, h3⟩ := and3 h0
  exact ⟨_, _, _, _, rfl, of_decide_eq_true h1, h2, h3, h4⟩
theorem chkK_some : ∀ {l : Kvs} {ks : List (Option Expr)} {vs : List Expr}, chkK x N sc l ks vs = true → ks.all (·.isSome) = true ∧ ks.length = vs.length ∧ l.len = ks.length
  | .nil, [], [], _ => ⟨rfl, rfl, rfl⟩
  | .cons k v l, some ek :: ks, ev :: vs, h => by
    obtain ⟨_, _, h3⟩ := and3 h
    obtain ⟨a, b, c⟩ := chkK_some h3
    exact ⟨by rw [List.all_cons, a]; rfl, congrArg (· + 1) b, congrArg (· + 1) c⟩
  | .nil, [], _ :: _, h => by cases h
  | .nil, _ :: _, _, h => by cases h
  | .cons _ _ _, [], _, h => by cases h
  | .cons _ _ _, none :: _, _, h => by cases h
  | .cons _ _ _, some _ :: _, [], h => by cases h
theorem i_dct {l : Kvs} (h : chk x N sc (.dct l) e = true) : ∃ ks vs p, e = .Dict ks vs p ∧ chkK x N sc l ks vs = true ∧ ks.length ≤ 15 := by
  cases e <;> first | (cases h; done) | skip
  obtain ⟨h1, h2⟩ := and2 h
  exact ⟨_, _, _, rfl, h1, of_decide_eq_true h2⟩
theorem i_dc {ws : List Nat} {k v : M} {p : Pat} {it : It} {cs : Ts} (h : chk x N sc (.dc ws k v p it cs) e = true) : ∃ ek ev tg iter ifs scope pos, e = .DictComp ek ev [⟨tg, iter, ifs, 0⟩] scope pos ∧ blkC N sc scope (ownL N ws) = true ∧ chkP N scope p tg = true ∧ plainA iter = true ∧ chkI x N sc it iter = true ∧ chkTs x N (relS scope sc) cs ifs = true ∧ chk x N (relS scope sc) k ek = true ∧ chk x N (relS scope sc) v ev = true := by
  cases e <;> first | (cases h; done) | skip
  rename_i ek ev gs scope pos
  rcases gs with _ | ⟨⟨tg, iter, ifs, k⟩, r⟩
  · cases h
  rcases k with ⟨_ | n⟩ | n <;> rcases r with _ | ⟨g2, r⟩ <;> first | (cases h; done) | skip
  obtain ⟨h0, h7⟩ := and2 h
  obtain ⟨h0, h6⟩ := and2 h0
  obtain ⟨h0, h5⟩ := and2 h0
  obtain ⟨h0, h4⟩ := and2 h0
  obtain ⟨h1, h2, h3⟩ := and3 h0
  exact ⟨_, _, _, _, _, _, _, rfl, h1, h2, h3, h4, h5, h6, h7⟩
theorem i_bm {b : Bmt} {o : M} {l : Ms} (h : chk x N sc (.bm b o l) e = true) : ∃ eo ap ea es pos, e = .Call (.Attribute eo (bmN b) ap) (ea :: es) [] pos ∧ bmDone b = true ∧ baseP eo = true ∧ (ea :: es).length < 30 ∧ (ap.endLine == pos.line) = true ∧ chk x N sc o eo = true ∧ chkL x N sc l (ea :: es) = true := by
  cases e <;> first | (cases h; done) | skip
  rename_i fn es ks pos
  cases fn <;> first | (cases h; done) | skip
  cases es <;> first | (cases h; done) | skip
  cases ks <;> first | (cases h; done) | skip
  obtain ⟨h0, h7⟩ := and2 h
  obtain ⟨h0, h6⟩ := and2 h0
  obtain ⟨h0, h5⟩ := and2 h0
  obtain ⟨h0, h4⟩ := and2 h0
  obtain ⟨h1, h2, h3⟩ := and3 h0
  have e1 := of_decide_eq_true h1
  subst e1
  exact ⟨_, _, _, _, _, rfl, h2, h3, of_decide_eq_true h4, h5, h6, h7⟩
theorem i_mth {o : M} {m : Str} {l : Ms} (h : chk x N sc (.mth o m l) e = true) : ∃ eo ap es pos, e = .Call (.Attribute eo m ap) es [] pos ∧ baseP eo = true ∧ es.length < 30 ∧ (ap.endLine == pos.line) = true ∧ chk x N sc o eo = true ∧ chkL x N sc l es = true := by
  cases e <;> first | (cases h; done) | skip
  rename_i fn es ks pos
  cases fn <;> first | (cases h; done) | skip
  cases ks <;> first | (cases h; done) | skip
  obtain ⟨h0, h6⟩ := and2 h
  obtain ⟨h0, h5⟩ := and2 h0
  obtain ⟨h0, h4⟩ := and2 h0
  obtain ⟨h1, h2, h3⟩ := and3 h0
  have e1 := of_decide_eq_true h1
  subst e1
  exact ⟨_, _, _, _, rfl, h2, of_decide_eq_true h3, h4, h5, h6⟩
theorem i_blt {b : Blt} {l : Ms} (h : chk x N sc (.blt b l) e = true) : ∃ y p ea es pos, e = .Call (.Name y p) (ea :: es) [] pos ∧ glo1 x sc y (bltN b) = true ∧ chkL x N sc l (ea :: es) = true := by
  cases e <;> first | (cases h; done) | skip
  rename_i fn es ks pos
  cases fn <;> first | (cases h; done) | skip
  cases es <;> first | (cases h; done) | skip
  cases ks <;> first | (cases h; done) | skip
  obtain ⟨h1, h2⟩ := and2 h
  exact ⟨_, _, _, _, _, rfl, h1, h2⟩
theorem i_isi {a : M} {t : Ty} (h : chk x N sc (.isi a t) e = true) : ∃ y p ea z pz pos, e = .Call (.Name y p) [ea, .Name z pz] [] pos ∧ glo1 x sc y "isinstance" = true ∧ plainA ea = true ∧ chk x N sc a ea = true ∧ tyN x t = some z ∧ glB sc z = true ∧ dbgOk z = true ∧ tyFree x t = true := by
  cases e <;> first | (cases h; done) | skip
  rename_i fn es ks pos
  cases fn <;> first | (cases h; done) | skip
  rcases es with _ | ⟨ea, _ | ⟨eb, _ | ⟨ec, r⟩⟩⟩ <;> first | (cases h; done) | (cases eb <;> cases h; done) | skip
  cases eb <;> first | (cases h; done) | skip
  cases ks <;> first | (cases h; done) | skip
  obtain ⟨h0, h7⟩ := and2 h
  obtain ⟨h0, h6⟩ := and2 h0
  obtain ⟨h0, h5⟩ := and2 h0
  obtain ⟨h0, h4⟩ := and2 h0
  obtain ⟨h1, h2, h3⟩ := and3 h0
  exact ⟨_, _, _, _, _, _, rfl, h1, h2, h3, of_decide_eq_true h4, h5, h6, h7⟩
theorem i_lrng1 {a : M} (h : chk x N sc (.lrng (.rng a)) e = true) : ∃ y p z pz ea p3 pos, e = .Call (.Name y p) [.Call (.Name z pz) [ea] [] p3] [] pos ∧ glo1 x sc y "list" = true ∧ glo1 x sc z "range" = true ∧ plainA ea = true ∧ chk x N sc a ea = true := by
  cases e <;> first | (cases h; done) | skip
  rename_i fn es ks pos
  cases fn <;> first | (cases h; done) | skip
  rcases es with _ | ⟨eb, _ | ⟨ec, r⟩⟩ <;> first | (cases h; done) | skip
  · cases eb <;> first | (cases h; done) | skip
    rename_i fn2 es2 ks2 pos2
    cases fn2 <;> first | (cases h; done) | skip
    rcases es2 with _ | ⟨eb, _ | ⟨ec, r⟩⟩ <;> first | (cases h; done) | (cases ks2 <;> cases h; done) | skip
    cases ks2 <;> first | (cases h; done) | skip
    cases ks <;> first | (cases h; done) | skip
    obtain ⟨h0, h4⟩ := and2 h
    obtain ⟨h1, h2, h3⟩ := and3 h0
    exact ⟨_, _, _, _, _, _, _, rfl, h1, h2, h3, h4⟩
  · cases eb <;> first | (cases h; done) | skip
    rename_i fn2 es2 ks2 pos2
    cases fn2 <;> first | (cases h; done) | skip
    rcases es2 with _ | ⟨eb, _ | ⟨ec, r⟩⟩ <;> first | (cases h; done) | (cases ks2 <;> cases h; done)
theorem i_lrng2 {a b : M} (h : chk x N sc (.lrng (.rng2 a b)) e = true) : ∃ y p z pz ea eb p3 pos, e = .Call (.Name y p) [.Call (.Name z pz) [ea, eb] [] p3] [] pos ∧ glo1 x sc y "list" = true ∧ glo1 x sc z "range" = true ∧ plainA ea = true ∧ plainA eb = true ∧ chk x N sc a ea = true ∧ chk x N sc b eb = true := by
  cases e <;> first | (cases h; done) | skip
  rename_i fn es ks pos
  cases fn <;> first | (cases h; done) | skip
  rcases es with _ | ⟨eb, _ | ⟨ec, r⟩⟩ <;> first | (cases h; done) | skip
  · cases eb <;> first | (cases h; done) | skip
    rename_i fn2 es2 ks2 pos2
    cases fn2 <;> first | (cases h; done) | skip
    rcases es2 with _ | ⟨eb, _ | ⟨ec, _ | ⟨e3, r⟩⟩⟩ <;> first | (cases h; done) | (cases ks2 <;> cases h; done) | skip
    cases ks2 <;> first | (cases h; done) | skip
    cases ks <;> first | (cases h; done) | skip
    obtain ⟨h0, h6⟩ := and2 h
    obtain ⟨h0, h5⟩ := and2 h0
    obtain ⟨h0, h4⟩ := and2 h0
    obtain ⟨h1, h2, h3⟩ := and3 h0
    exact ⟨_, _, _, _, _, _, _, _, rfl, h1, h2, h3, h4, h5, h6⟩
  · cases eb <;> first | (cases h; done) | skip
    rename_i fn2 es2 ks2 pos2
    cases fn2 <;> first | (cases h; done) | skip
    rcases es2 with _ | ⟨eb, _ | ⟨ec, _ | ⟨e3, r⟩⟩⟩ <;> first | (cases h; done) | (cases ks2 <;> cases h; done)
theorem i_lc {ws : List Nat} {elt : M} {p : Pat} {it : It} {cs : Ts} (h : chk x N sc (.lc ws elt p it cs) e = true) : ∃ ee tg iter ifs scope pos, e = .ListComp ee [⟨tg, iter, ifs, 0⟩] scope pos ∧ blkC N sc scope (ownL N ws) = true ∧ chkP N scope p tg = true ∧ plainA iter = true ∧ chkI x N sc it iter = true ∧ chkTs x N (relS scope sc) cs ifs = true ∧ chk x N (relS scope sc) elt ee = true := by
  cases e <;> first | (cases h; done) | skip
  rename_i ee gs scope pos
  rcases gs with _ | ⟨⟨tg, iter, ifs, k⟩, r⟩
  · cases h
  rcases k with ⟨_ | n⟩ | n <;> rcases r with _ | ⟨g2, r⟩ <;> first | (cases h; done) | skip
  obtain ⟨h0, h6⟩ := and2 h
  obtain ⟨h0, h5⟩ := and2 h0
  obtain ⟨h0, h4⟩ := and2 h0
  obtain ⟨h1, h2, h3⟩ := and3 h0
  exact ⟨_, _, _, _, _, _, rfl, h1, h2, h3, h4, h5, h6⟩
end
end
end MP

set_option maxRecDepth 100000
set_option maxHeartbeats 1000000
/-! MP19: every checked expression computes what the small language says. -/
namespace MP
open PySem PySem.Spec PyProof.Rows L2

section
variable {tb : Tb} {Φ : Nat → List D → MH → R D} {x : Tx} {N : List Str} {j : Nat}
section
variable {sc : Scope} {e : Expr}
theorem i_Irng {a : M} (h : chkI x N sc (.rng a) e = true) : ∃ z pz ea pos, e = .Call (.Name z pz) [ea] [] pos ∧ glo1 x sc z "range" = true ∧ plainA ea = true ∧ chk x N sc a ea = true := by
  cases e <;> first | (cases h; done) | skip
  rename_i fn es ks pos
  cases fn <;> first | (cases h; done) | skip
  rcases es with _ | ⟨ea, _ | ⟨eb, r⟩⟩ <;> first | (cases h; done) | (cases ks <;> cases h; done) | skip
  cases ks <;> first | (cases h; done) | skip
  obtain ⟨h1, h2, h3⟩ := and3 h
  exact ⟨_, _, _, _, rfl, h1, h2, h3⟩
theorem i_Irng2 {a b : M} (h : chkI x N sc (.rng2 a b) e = true) : ∃ z pz ea eb pos, e = .Call (.Name z pz) [ea, eb] [] pos ∧ glo1 x sc z "range" = true ∧ plainA ea = true ∧ plainA eb = true ∧ chk x N sc a ea = true ∧ chk x N sc b eb = true := by
  cases e <;> first | (cases h; done) | skip
  rename_i fn es ks pos
  cases fn <;> first | (cases h; done) | skip
  rcases es with _ | ⟨ea, _ | ⟨eb, _ | ⟨ec, r⟩⟩⟩ <;> first | (cases h; done) | (cases ks <;> cases h; done) | skip
  cases ks <;> first | (cases h; done) | skip
  obtain ⟨h0, h5⟩ := and2 h
  obtain ⟨h0, h4⟩ := and2 h0
  obtain ⟨h1, h2, h3⟩ := and3 h0
  exact ⟨_, _, _, _, _, rfl, h1, h2, h3, h4, h5⟩
theorem i_Tand {a b : T} (h : chkT x N sc (.and a b) e = true) : ∃ ea eb r p, e = .BoolOp .And (ea :: eb :: r) p ∧ chkT x N sc a ea = true ∧ ((r = [] ∧ chkT x N sc b eb = true) ∨ chkT x N sc b (.BoolOp .And (eb :: r) p) = true) := by
  cases e <;> first | (cases h; done) | skip
  rename_i op es p
  cases op <;> first | (cases h; done) | skip
  rcases es with _ | ⟨ea, _ | ⟨eb, _ | ⟨ec, r⟩⟩⟩ <;> first | (cases h; done) | skip
  · obtain ⟨h1, h2⟩ := and2 h
    exact ⟨_, _, _, _, rfl, h1, .inl ⟨rfl, h2⟩⟩
  · obtain ⟨h1, h2⟩ := and2 h
    exact ⟨_, _, _, _, rfl, h1, .inr h2⟩
theorem i_Tor {a b : T} (h : chkT x N sc (.or a b) e = true) : ∃ ea eb r p, e = .BoolOp .Or (ea :: eb :: r) p ∧ chkT x N sc a ea = true ∧ ((r = [] ∧ chkT x N sc b eb = true) ∨ chkT x N sc b (.BoolOp .Or (eb :: r) p) = true) := by
  cases e <;> first | (cases h; done) | skip
  rename_i op es p
  cases op <;> first | (cases h; done) | skip
  rcases es with _ | ⟨ea, _ | ⟨eb, _ | ⟨ec, r⟩⟩⟩ <;> first | (cases h; done) | skip
  · obtain ⟨h1, h2⟩ := and2 h
    exact ⟨_, _, _, _, rfl, h1, .inl ⟨rfl, h2⟩⟩
  · obtain ⟨h1, h2⟩ := and2 h
    exact ⟨_, _, _, _, rfl, h1, .inr h2⟩
theorem i_Tnot {a : T} (h : chkT x N sc (.not a) e = true) : ∃ ea p, e = .UnaryOp .Not ea p ∧ chkT x N sc a ea = true := by
  cases e <;> first | (cases h; done) | skip
  rename_i op ea pos
  cases op <;> first | (cases h; done) | skip
  exact ⟨_, _, rfl, h⟩
end
/-- an expression's two readings -/
def PV (tb : Tb) (Φ : Nat → List D → MH → R D) (x : Tx) (X : Cx) (S : SC) (m : M) (e : Expr) : Prop := PE X e (tE tb Φ S m) ∧ (isCmp m = true → PT X e (tT tb Φ S (.v m))) ∧ (isF x m = true → PE X e (tF tb Φ S m))
theorem PV.fresh {tb : Tb} {Φ : Nat → List D → MH → R D} {x : Tx} {X : Cx} {S : SC} {m : M} {e : Expr} (hc : isCmp m = false) (h : PE X e (tF tb Φ S m)) : PV tb Φ x X S m e := ⟨PE.ofF h, (fun z => absurd z (by rw [hc]; decide)), fun _ => h⟩
variable (np : ∀ f ds h d h', Φ f ds h = R.ok d h' → ds.length = (x.fps f).length)
include np
mutual
theorem pe_ok : ∀ (m : M) (X : Cx) (S : SC) (e : Expr) (sc : Scope), Gd tb Φ x N j S X → X.env.scope = sc → chk x N sc m e = true → PV tb Φ x X S m e
  | .var i, X, S, e, sc, G, hs, h => by
    obtain ⟨y, p, rfl, h1, h2, h3⟩ := i_var h
    exact ⟨e_var' G hs h1 h2 h3, (fun z => nomatch z), (fun z => nomatch z)⟩
  | .cst d, X, S, e, sc, G, hs, h => by
    obtain ⟨c, k, p, rfl, h1⟩ := i_cst h
    exact ⟨e_cst h1, (fun z => nomatch z), (fun z => nomatch z)⟩
  | .glo g, X, S, e, sc, G, hs, h => by
    obtain ⟨y, p, rfl, h1, h2, h3⟩ := i_glo h
    exact ⟨e_glo G hs h1 h2 h3, (fun z => nomatch z), (fun z => nomatch z)⟩
  | .bin op a b, X, S, e, sc, G, hs, h => by
    obtain ⟨ea, eb, p, rfl, h2, h3⟩ := i_bin h
    exact ⟨e_bin G (po_of G hs h2 (pe_ok a X S ea sc G hs h2).1) (po_of G hs h3 (pe_ok b X S eb sc G hs h3).1), (fun z => nomatch z), (fun z => nomatch z)⟩
  | .neg a, X, S, e, sc, G, hs, h => by
    obtain ⟨ea, p, rfl, h2⟩ := i_neg h
    exact ⟨e_neg (pe_ok a X S ea sc G hs h2).1, (fun z => nomatch z), (fun z => nomatch z)⟩
  | .cmp op a b, X, S, e, sc, G, hs, h => by
    obtain ⟨ea, eb, p, rfl, h1, h2, h3⟩ := i_cmp h
    exact ⟨e_cmp G (po_of G hs h2 (pe_ok a X S ea sc G hs h2).1) (po_of G hs h3 (pe_ok b X S eb sc G hs h3).1) h1, (fun _ => t_cmp G (po_of G hs h2 (pe_ok a X S ea sc G hs h2).1) (po_of G hs h3 (pe_ok b X S eb sc G hs h3).1) h1), (fun z => nomatch z)⟩
  | .chn op op' a b c, X, S, e, sc, G, hs, h => by
    obtain ⟨ea, eb, ec, p, rfl, h1, h2, h3, h4⟩ := i_chn h
    exact ⟨e_chn G (po_of G hs h2 (pe_ok a X S ea sc G hs h2).1) (po_of G hs h3 (pe_ok b X S eb sc G hs h3).1) (po_of G hs h4 (pe_ok c X S ec sc G hs h4).1) h1, (fun _ => t_chn G (po_of G hs h2 (pe_ok a X S ea sc G hs h2).1) (po_of G hs h3 (pe_ok b X S eb sc G hs h3).1) (po_of G hs h4 (pe_ok c X S ec sc G hs h4).1) h1), (fun z => nomatch z)⟩
  | .andd a b, X, S, e, sc, G, hs, h => by
    obtain ⟨ea, eb, r, p, rfl, h1, h2⟩ := i_and h
    rcases h2 with ⟨rfl, h2⟩ | h2
    · exact ⟨e_and (pe_ok a X S ea sc G hs h1).1 (pe_one (pe_ok b X S eb sc G hs h2).1), (fun z => nomatch z), (fun z => nomatch z)⟩
    · exact ⟨e_and (pe_ok a X S ea sc G hs h1).1 (pe_ok b X S _ sc G hs h2).1, (fun z => nomatch z), (fun z => nomatch z)⟩
  | .orr a b, X, S, e, sc, G, hs, h => by
    obtain ⟨ea, eb, r, p, rfl, h1, h2⟩ := i_or h
    rcases h2 with ⟨rfl, h2⟩ | h2
    · exact ⟨e_or (pe_ok a X S ea sc G hs h1).1 (pe_one (pe_ok b X S eb sc G hs h2).1), (fun z => nomatch z), (fun z => nomatch z)⟩
    · exact ⟨e_or (pe_ok a X S ea sc G hs h1).1 (pe_ok b X S _ sc G hs h2).1, (fun z => nomatch z), (fun z => nomatch z)⟩
  | .nott a, X, S, e, sc, G, hs, h => by
    obtain ⟨ea, p, rfl, h2⟩ := i_not h
    exact ⟨e_not (pe_ok a X S ea sc G hs h2).1, (fun z => nomatch z), (fun z => nomatch z)⟩
  | .tup l, X, S, e, sc, G, hs, h => by
    obtain ⟨es, k, p, rfl, h2⟩ := i_tup h
    exact ⟨e_tup (pa_ok l X S es sc G hs h2), (fun z => nomatch z), (fun z => nomatch z)⟩
  | .lst l, X, S, e, sc, G, hs, h => by
    obtain ⟨es, p, rfl, h2⟩ := i_lst h
    exact PV.fresh rfl (e_lstF (pa_ok l X S es sc G hs h2))
  | .dct l, X, S, e, sc, G, hs, h => by
    obtain ⟨ks, vs, p, rfl, h1, h2⟩ := i_dct h
    obtain ⟨a1, a2, a3⟩ := chkK_some h1
    by_cases hk : ks = []
    · subst hk
      cases vs with
      | cons _ _ => cases a2
      | nil => cases l with
        | nil => exact PV.fresh rfl e_dct0F
        | cons _ _ _ => cases a3
    · exact PV.fresh rfl (e_dctF (pk_ok l X S ks vs sc p G hs h1) a1 a2 hk h2 a3)
  | .idx a b, X, S, e, sc, G, hs, h => by
    obtain ⟨ea, eb, p, rfl, h1, h2, h3⟩ := i_idx h
    exact ⟨e_idx G np (po_of G hs h2 (pe_ok a X S ea sc G hs h2).1) (pe_ok b X S eb sc G hs h3).1 h1, (fun z => nomatch z), (fun z => nomatch z)⟩
  | .slc a lo hi, X, S, e, sc, G, hs, h => by
    obtain ⟨ea, el, eh, p2, p, rfl, h1, h2, h3⟩ := i_slc h
    exact ⟨e_slc G (po_of G hs h1 (pe_ok a X S ea sc G hs h1).1) (pmo_ok lo X S el sc G hs h2) (pmo_ok hi X S eh sc G hs h3), (fun z => nomatch z), (fun z => nomatch z)⟩
  | .rev a, X, S, e, sc, G, hs, h => by cases e <;> cases h
  | .att a f, X, S, e, sc, G, hs, h => by
    obtain ⟨ea, p, rfl, h1, h2⟩ := i_att h
    exact ⟨e_att G (pe_ok a X S ea sc G hs h2).1 h1, (fun z => nomatch z), (fun z => nomatch z)⟩
  | .call f l, X, S, e, sc, G, hs, h => by
    obtain ⟨y, p, es, pos, rfl, h1, h2, h3, h4⟩ := i_call h
    have pa := pa_ok l X S es sc G hs h4
    have pz : es = [] → l = .nil := fun z => by subst z; cases l <;> first | rfl | cases h4
    exact ⟨e_call G np hs h1 h2 h3 pa pz (chkL_plain h4), (fun z => nomatch z), fun z => e_callF G np hs h1 h2 h3 pa pz (chkL_plain h4) z⟩
  | .mk c l, X, S, e, sc, G, hs, h => by
    obtain ⟨y, p, es, pos, rfl, h1, h2, h3, h4⟩ := i_mk h
    exact ⟨e_mk G np hs h1 h2 h3 (pa_ok l X S es sc G hs h4) (fun z => by subst z; cases l <;> first | rfl | cases h4) (chkL_plain h4), (fun z => nomatch z), (fun z => nomatch z)⟩
  | .mth o m l, X, S, e, sc, G, hs, h => by
    obtain ⟨eo, ap, es, pos, rfl, h1, h2, h3, h4, h5⟩ := i_mth h
    exact ⟨e_mth G np (pe_ok o X S eo sc G hs h4).1 (pa_ok l X S es sc G hs h5) (fun z => by subst z; cases l <;> first | rfl | cases h5) h1 (chkL_plain h5) h2 h3, (fun z => nomatch z), (fun z => nomatch z)⟩
  | .blt b l, X, S, e, sc, G, hs, h => by
    obtain ⟨y, p, ea, es, pos, rfl, h1, h2⟩ := i_blt h
    have pa := pao_ok l X S _ sc G hs h2
    exact ⟨e_blt G hs h1 pa (chkL_plain h2), (fun z => nomatch z), fun z => e_bltF G hs h1 pa (chkL_plain h2) z⟩
  | .bm b o l, X, S, e, sc, G, hs, h => by
    obtain ⟨eo, ap, ea, es, pos, rfl, h1, h2, h3, h4, h5, h6⟩ := i_bm h
    exact ⟨e_bm G (po_of G hs h5 (pe_ok o X S eo sc G hs h5).1) (pa_ok l X S _ sc G hs h6) h2 (chkL_plain h6) h3 h4 h1, (fun z => nomatch z), (fun z => nomatch z)⟩
  | .isi a t, X, S, e, sc, G, hs, h => by
    obtain ⟨y, p, ea, z, pz, pos, rfl, h1, h2, h3, h4, h5, h6, h7⟩ := i_isi h
    exact ⟨e_isi G hs h1 h2 (po_of G hs h3 (pe_ok a X S ea sc G hs h3).1) h4 h5 h6 h7, (fun z => nomatch z), (fun z => nomatch z)⟩
  | .lrng (.val m), X, S, e, sc, G, hs, h => by cases e <;> cases h
  | .lrng (.rng a), X, S, e, sc, G, hs, h => by
    obtain ⟨y, p, z, pz, ea, p3, pos, rfl, h1, h2, h3, h4⟩ := i_lrng1 h
    exact PV.fresh rfl (e_lrng1F G hs h1 h2 h3 (pe_ok a X S ea sc G hs h4).1)
  | .lrng (.rng2 a b), X, S, e, sc, G, hs, h => by
    obtain ⟨y, p, z, pz, ea, eb, p3, pos, rfl, h1, h2, h3, h4, h5, h6⟩ := i_lrng2 h
    exact PV.fresh rfl (e_lrng2F G hs h1 h2 h3 h4 (pe_ok a X S ea sc G hs h5).1 (pe_ok b X S eb sc G hs h6).1)
  | .lrng (.enum m), X, S, e, sc, G, hs, h => by cases e <;> cases h
  | .lrng (.zip a b), X, S, e, sc, G, hs, h => by cases e <;> cases h
  | .lc ws elt p it cs, X, S, e, sc, G, hs, h => by
    obtain ⟨ee, tg, iter, ifs, scope, pos, rfl, h1, h2, h3, h4, h5, h6⟩ := i_lc h
    have hK : S.C.K = X.K := by rw [G.C]
    refine PV.fresh rfl (e_lcF G (pi_ok it X S tg iter sc G hs h4) (blkOk_by (by rw [hs, G.nm]; exact h1)) (ownL_snd N ws) (fun s H C cl fp => ?_) (fun s H C cl fp => ?_) (fun s H C cl fp => ?_) h3)
    · exact g_pat hK G.calm (show X.N.Nodup by rw [G.nm]; exact G.nd) (fun y => blk_loc y) (show chkP X.N scope p tg = true by rw [G.nm]; exact h2)
    · exact PTs.ex fun S' hS => pts_ok cs _ S' ifs _ ((G.sc hS).blk s H scope _ fp) (show relS scope X.env.scope = relS scope sc by rw [hs]) h5
    · exact PE.ex fun S' hS => (pe_ok elt _ S' ee _ ((G.sc hS).blk s H scope _ fp) (show relS scope X.env.scope = relS scope sc by rw [hs]) h6).1
  | .lc2 ws ws1 elt p it cs p1 it1 cs1, X, S, e, sc, G, hs, h => by cases e <;> cases h
  | .dc ws k v p it cs, X, S, e, sc, G, hs, h => by
    obtain ⟨ek, ev, tg, iter, ifs, scope, pos, rfl, h1, h2, h3, h4, h5, h6, h7⟩ := i_dc h
    have hK : S.C.K = X.K := by rw [G.C]
    have hrel : relS scope X.env.scope = relS scope sc := by rw [hs]
    refine PV.fresh rfl (e_dcF G (pi_ok it X S tg iter sc G hs h4) (blkOk_by (by rw [hs, G.nm]; exact h1)) (ownL_snd N ws) (fun s H C cl fp => ?_) (fun s H C cl fp => ?_) (fun s H C cl fp => ?_) (fun s H C cl fp => ?_) h3)
    · exact g_pat hK G.calm (show X.N.Nodup by rw [G.nm]; exact G.nd) (fun y => blk_loc y) (show chkP X.N scope p tg = true by rw [G.nm]; exact h2)
    · exact PTs.ex fun S' hS => pts_ok cs _ S' ifs _ ((G.sc hS).blk s H scope _ fp) hrel h5
    · exact PE.ex fun S' hS => (pe_ok k _ S' ek _ ((G.sc hS).blk s H scope _ fp) hrel h6).1
    · exact PE.ex fun S' hS => (pe_ok v _ S' ev _ ((G.sc hS).blk s H scope _ fp) hrel h7).1
  | .srt k m, X, S, e, sc, G, hs, h => by cases e <;> cases h
  | .slen ws elt p it, X, S, e, sc, G, hs, h => by cases e <;> cases h
theorem pk_ok : ∀ (l : Kvs) (X : Cx) (S : SC) (ks : List (Option Expr)) (vs : List Expr) (sc : Scope) (pos : Pos), Gd tb Φ x N j S X → X.env.scope = sc → chkK x N sc l ks vs = true → PPs X pos ks vs (kvTrs tb Φ S.C l)
  | .nil, X, S, [], [], sc, pos, G, hs, h => pps_nil
  | .cons k v l, X, S, some ek :: ks, ev :: vs, sc, pos, G, hs, h => by
    obtain ⟨h1, h2, h3⟩ := and3 h
    exact pps_cons (PE.ex fun S' hS => (pe_ok k X S' ek sc (G.sc hS) hs h1).1) (PE.ex fun S' hS => (pe_ok v X S' ev sc (G.sc hS) hs h2).1) (pk_ok l X S ks vs sc pos G hs h3)
  | .nil, _, _, [], _ :: _, _, _, _, _, h => by cases h
  | .nil, _, _, _ :: _, _, _, _, _, _, h => by cases h
  | .cons _ _ _, _, _, [], _, _, _, _, _, h => by cases h
  | .cons _ _ _, _, _, none :: _, _, _, _, _, _, h => by cases h
  | .cons _ _ _, _, _, some _ :: _, [], _, _, _, _, h => by cases h
theorem pa_ok : ∀ (l : Ms) (X : Cx) (S : SC) (es : List Expr) (sc : Scope), Gd tb Φ x N j S X → X.env.scope = sc → chkL x N sc l es = true → PA X es (tEs tb Φ S l)
  | .nil, X, S, [], sc, G, hs, h => a_nil
  | .nil, X, S, _ :: _, sc, G, hs, h => by cases h
  | .cons m l, X, S, [], sc, G, hs, h => by cases h
  | .cons m l, X, S, e :: es, sc, G, hs, h => by
    obtain ⟨h1, h2, h3⟩ := and3 h
    exact a_cons (pe_ok m X S e sc G hs h2).1 (pa_ok l X S es sc G hs h3) h1
theorem pao_ok : ∀ (l : Ms) (X : Cx) (S : SC) (es : List Expr) (sc : Scope), Gd tb Φ x N j S X → X.env.scope = sc → chkL x N sc l es = true → PA X es (tOs tb Φ S l)
  | .nil, X, S, [], sc, G, hs, h => ao_nil
  | .nil, X, S, _ :: _, sc, G, hs, h => by cases h
  | .cons m l, X, S, [], sc, G, hs, h => by cases h
  | .cons m l, X, S, e :: es, sc, G, hs, h => by
    obtain ⟨h1, h2, h3⟩ := and3 h
    exact ao_cons (po_of G hs h2 (pe_ok m X S e sc G hs h2).1) (pao_ok l X S es sc G hs h3) h1
theorem pmo_ok : ∀ (o : Mo) (X : Cx) (S : SC) (e : Option Expr) (sc : Scope), Gd tb Φ x N j S X → X.env.scope = sc → chkO x N sc o e = true → PO X e (tMo tb Φ S o)
  | .no, X, S, none, sc, G, hs, h => o_no
  | .no, X, S, some _, sc, G, hs, h => by cases h
  | .so m, X, S, none, sc, G, hs, h => by cases h
  | .so m, X, S, some e, sc, G, hs, h => o_so (pe_ok m X S e sc G hs h).1
theorem pi_ok : ∀ (it : It) (X : Cx) (S : SC) (tg e : Expr) (sc : Scope), Gd tb Φ x N j S X → X.env.scope = sc → chkI x N sc it e = true → PI X tg e (tI tb Φ S it)
  | .val m, X, S, tg, e, sc, G, hs, h => i_val G (po_of G hs h (pe_ok m X S e sc G hs h).1)
  | .rng a, X, S, tg, e, sc, G, hs, h => by
    obtain ⟨z, pz, ea, pos, rfl, h1, h2, h3⟩ := i_Irng h
    exact i_rng G hs h1 h2 (pe_ok a X S ea sc G hs h3).1
  | .rng2 a b, X, S, tg, e, sc, G, hs, h => by
    obtain ⟨z, pz, ea, eb, pos, rfl, h1, h2, h3, h4, h5⟩ := i_Irng2 h
    exact i_rng2 G hs h1 h2 h3 (pe_ok a X S ea sc G hs h4).1 (pe_ok b X S eb sc G hs h5).1
  | .enum m, X, S, tg, e, sc, G, hs, h => by cases e <;> cases h
  | .zip a b, X, S, tg, e, sc, G, hs, h => by cases e <;> cases h
theorem pt_ok : ∀ (c : T) (X : Cx) (S : SC) (e : Expr) (sc : Scope), Gd tb Φ x N j S X → X.env.scope = sc → chkT x N sc c e = true → PT X e (tT tb Φ S c)
  | .v m, X, S, e, sc, G, hs, h => by
    obtain ⟨h1, h2⟩ := and2 h
    have q := pe_ok m X S e sc G hs h2
    by_cases hc : isCmp m = true
    · exact q.2.1 hc
    · refine t_val G (po_of G hs h2 q.1) ?_
      rw [Bool.not_eq_true] at hc
      rw [hc, Bool.or_false] at h1
      exact h1
  | .and a b, X, S, e, sc, G, hs, h => by
    obtain ⟨ea, eb, r, p, rfl, h1, h2⟩ := i_Tand h
    rcases h2 with ⟨rfl, h2⟩ | h2
    · exact (t_and (pt_ok a X S ea sc G hs h1) (pw_and1 (pt_ok b X S eb sc G hs h2))).pt
    · exact (t_and (pt_ok a X S ea sc G hs h1) ⟨fun wh => (pt_ok b X S _ sc G hs h2).run⟩).pt
  | .or a b, X, S, e, sc, G, hs, h => by
    obtain ⟨ea, eb, r, p, rfl, h1, h2⟩ := i_Tor h
    rcases h2 with ⟨rfl, h2⟩ | h2
    · exact (t_or (pt_ok a X S ea sc G hs h1) (pw_or1 (pt_ok b X S eb sc G hs h2))).pt
    · exact (t_or (pt_ok a X S ea sc G hs h1) ⟨fun wh => (pt_ok b X S _ sc G hs h2).run⟩).pt
  | .not a, X, S, e, sc, G, hs, h => by
    obtain ⟨ea, p, rfl, h2⟩ := i_Tnot h
    exact t_not (pt_ok a X S ea sc G hs h2)
theorem pts_ok : ∀ (cs : Ts) (X : Cx) (S : SC) (es : List Expr) (sc : Scope), Gd tb Φ x N j S X → X.env.scope = sc → chkTs x N sc cs es = true → PTs X es (tCs tb Φ S cs)
  | .nil, X, S, [], sc, G, hs, h => c_nil
  | .nil, X, S, _ :: _, sc, G, hs, h => by cases h
  | .cons c .nil, X, S, [e], sc, G, hs, h => c_one (pt_ok c X S e sc G hs h)
  | .cons c .nil, X, S, [], sc, G, hs, h => by cases h
  | .cons c .nil, X, S, _ :: _ :: _, sc, G, hs, h => by cases h
  | .cons c (.cons _ _), X, S, es, sc, G, hs, h => by
    rcases es with _ | ⟨e1, _ | ⟨e2, r⟩⟩ <;> cases h
end
end
end MP

set_option maxRecDepth 100000
set_option maxHeartbeats 1000000
/-! MP20: statements: the checker, readings. -/
namespace MP
open PySem PySem.Spec PyProof.Rows L2

def isComp : Expr → Bool
  | .ListComp .. => true
  | .SetComp .. => true
  | .DictComp .. => true
  | _ => false
def isTupE : Expr → Bool
  | .Tuple .. => true
  | _ => false
def locL (sc : Scope) (y : Str) : Bool := match sc.names.lookup y with
  | some .local => true
  | _ => false
/-- a list comprehension that the store takes part in -/
def swB (sc : Scope) (y : Str) (py : Pos) : Expr → Bool
  | .ListComp _ _ s p => locL sc y && (py.line == p.line) && !(s.names.any fun (n, k) => n == y && (k == .local || k == .cell))
  | .DictComp _ _ _ s p => locL sc y && (py.line == p.line) && !(s.names.any fun (n, k) => n == y && (k == .local || k == .cell))
  | _ => false
def isLc : Expr → Bool
  | .ListComp .. => true
  | .DictComp .. => true
  | _ => false
section
variable (x : Tx) (N : List Str) (sc : Scope)
mutual
def chkS : S → Stmt → Bool
  | .expr a, .Expr e _ => !isComp e && chk x N sc a e
  | .set i a, .Assign [.Name y py] e p => decide (N[i]? = some y) && locB sc y && ((!isComp e && chk x N sc a e) || (isLc e && (swB sc y py e || !locL sc y) && chk x N sc a e))
  | .setN i a, .Assign [.Name y py] e p => decide (N[i]? = some y) && locB sc y && isF x a && ((!isComp e && chk x N sc a e) || (isLc e && (swB sc y py e || !locL sc y) && chk x N sc a e))
  | .retF a, .Return (some e) _ => isF x a && chk x N sc a e
  | .retO i, .Return (some (.Name y _)) _ => decide (N[i]? = some y) && visB sc y && dbgOk y
  | .put i k v, .Assign [.Subscript (.Name y _) ek _] e _ => decide (N[i]? = some y) && visB sc y && dbgOk y && !isComp e && chk x N sc k ek && chk x N sc v e
  | .putS o k v, .Assign [.Subscript eo ek _] e _ => !isComp e && chk x N sc o eo && chk x N sc k ek && chk x N sc v e
  | .putO o k v, .Assign [.Subscript eo ek _] e _ => !isComp e && chk x N sc o eo && chk x N sc k ek && chk x N sc v e
  | .sattN i f v, .Assign [.Attribute (.Name y _) g _] e _ => decide (N[i]? = some y) && visB sc y && dbgOk y && decide (f = g) && isF x v && chk x N sc v e
  | .ext i a, .Expr (.Call (.Attribute (.Name y _) m ap) [e] [] p) _ => decide (N[i]? = some y) && visB sc y && dbgOk y && decide (m = "extend") && plainA e && (ap.endLine == p.line) && chk x N sc a e
  | .pop j i, .Assign [.Name z _] (.Call (.Attribute (.Name y _) m ap) [] [] p) _ => decide (N[i]? = some y) && visB sc y && dbgOk y && decide (m = "pop") && (ap.endLine == p.line) && decide (N[j]? = some z) && locB sc z
  | .clr i, .Expr (.Call (.Attribute (.Name y _) m ap) [] [] p) _ => decide (N[i]? = some y) && visB sc y && dbgOk y && decide (m = "clear") && (ap.endLine == p.line)
  | .unp is a, .Assign [.Tuple es _ _] e _ => chkNms N sc is es && decide (2 ≤ is.length) && !isComp e && !isTupE e && chk x N sc a e
  | .aug i op a, .AugAssign (.Name y _) o e _ => decide (N[i]? = some y) && locB sc y && decide (bopOf op = o) && chk x N sc a e
  | .satt o f v, .Assign [.Attribute eo g _] e _ => decide (f = g) && !isComp e && chk x N sc o eo && chk x N sc v e
  | .iff c a b, .If ec sa sb _ => chkT x N sc c ec && chkB a sa && chkB b sb
  | .whl c b, .While ec sb [] _ => chkT x N sc c ec && chkB b sb
  | .forr p it b, .For tg iter sb [] _ => chkP N sc p tg && plainA iter && chkI x N sc it iter && chkB b sb
  | .ret a, .Return (some e) _ => chk x N sc a e
  | .retn, .Return none _ => true
  | .brk, .Break _ => true
  | .cnt, .Continue _ => true
  | .pass, .Pass _ => true
  | .app i a, .Expr (.Call (.Attribute (.Name y _) m ap) [e] [] p) _ => decide (N[i]? = some y) && visB sc y && dbgOk y && decide (m = "append") && plainA e && (ap.endLine == p.line) && chk x N sc a e
  | .never, _ => true
  | _, _ => false
def chkB : Ss → List Stmt → Bool
  | .nil, [] => true
  | .cons (.frz _) l, sts => chkB l sts
  | .cons (.wip _) l, sts => chkB l sts
  | .cons s l, st :: sts => chkS s st && chkB l sts
  | _, _ => false
end
end

/-- where a look back ends -/
structure Bp where
  i : List Addr
  M : Addr → Prop
  H : Hp
/-- a scene within a def, and how it has come from there -/
structure RS (S : SC) (B : Bp) (ι : List Addr) (e : Ev) (h : MH) (σ : L2.St) (H : Hp) : Prop where
  rl : Rel S ι e h σ H
  go : Go B.i B.M B.H ι (Mu S.M0 ι e σ) H
  m0 : ∀ a, S.M0 a → ∃ o, S.H0 a = some o
/-- a scene with a new object that nothing else knows -/
structure RSF (S : SC) (B : Bp) (ι : List Addr) (e : Ev) (h : MH) (σ : L2.St) (H : Hp) (p : Addr) (d : D) : Prop where
  rl : Rel (SP1 S p) ι e h σ H
  go : Go B.i B.M B.H ι (Mu (SP1 S p).M0 ι e σ) H
  m0 : ∀ a, S.M0 a → ∃ o, S.H0 a = some o
  h0 : S.H0 p = none
  ni : p ∉ ι
  c : ContAt S.C ι (Mu (SP1 S p).M0 ι e σ) H p d
def OutS (S : SC) (B : Bp) (D : Ends) : O → Prop
  | .nx e h => ∀ ι σ H, RS S B ι e h σ H → D.nx σ H
  | .bk e h => ∀ ι σ H, RS S B ι e h σ H → D.bk σ H
  | .ct e h => ∀ ι σ H, RS S B ι e h σ H → D.ct σ H
  | .rt d h => ∀ ι e σ H v, RS S B ι e h σ H → Rep S.C ι (Mu S.M0 ι e σ) H v d → D.rt v H
  | .rtF d h => ∀ ι e σ H p, RSF S B ι e h σ H p d → D.rt (.ref p) H
  | _ => False
def tS (tb : Tb) (Φ : Nat → List D → MH → R D) (S : SC) (s : MP.S) : TS := fun D σ H => ∃ B ι e h, RS S B ι e h σ H ∧ OutS S B D (exec tb Φ s e h)
def tSs (tb : Tb) (Φ : Nat → List D → MH → R D) (S : SC) (l : Ss) : TS := fun D σ H => ∃ B ι e h, RS S B ι e h σ H ∧ OutS S B D (execs tb Φ l e h)
section
variable {S : SC} {B : Bp} {ι ι' : List Addr} {e e' : Ev} {h h' : MH} {σ σ' : L2.St} {H H' : Hp} {D : Ends}
theorem RS.step (r : RS S B ι e h σ H) (g : Go ι (Mu S.M0 ι e σ) H ι' (Mu S.M0 ι' e σ) H') (rl : Rel S ι' e h' σ H') : RS S B ι' e h' σ H' := ⟨rl, r.go.trans g, r.m0⟩
theorem RS.less (r : RS S B ι e h σ H) (rl : Rel S ι e' h' σ' H) (m : ∀ a, Mu S.M0 ι e' σ' a → Mu S.M0 ι e σ a) : RS S B ι e' h' σ' H := ⟨rl, r.go.trans (.less m), r.m0⟩
theorem mu_own (o : ∀ i a, OwnAt e' σ' i a → OwnAt e σ i a) (a : Addr) (m : Mu S.M0 ι e' σ' a) : Mu S.M0 ι e σ a := by
  rcases m with m | m | ⟨i, m⟩
  · exact .inl m
  · exact .inr (.inl m)
  · exact .inr (.inr ⟨i, o i a m⟩)
theorem RS.setVal {i : Nat} {v : V} {d : MP.D} (r : RS S B ι e h σ H) (rp : Rep S.C ι (Mu S.M0 ι e σ) H v d) : RS S B ι (e.set i (.val d)) h (σ.set i (some v)) H :=
  r.less (r.rl.setVal rp) (mu_own fun _ _ q => own_setVal q)
theorem st_ok {α : Type} {x : R α} {f : α → MH → O} (q : OutS S B D (x.st e f)) : ∃ a h', x = .ok a h' ∧ OutS S B D (f a h') := by
  cases x with
  | ok a h' => exact ⟨a, h', rfl, q⟩
  | ex c fs h' => exact q.elim
  | no => exact q.elim
theorem OutS.mono {B' : Bp} (g : Go B.i B.M B.H B'.i B'.M B'.H) : ∀ {r : O}, OutS S B D r → OutS S B' D r
  | .nx _ _, q => fun ι σ H r => q ι σ H ⟨r.rl, g.trans r.go, r.m0⟩
  | .bk _ _, q => fun ι σ H r => q ι σ H ⟨r.rl, g.trans r.go, r.m0⟩
  | .ct _ _, q => fun ι σ H r => q ι σ H ⟨r.rl, g.trans r.go, r.m0⟩
  | .rt _ _, q => fun ι e σ H v r => q ι e σ H v ⟨r.rl, g.trans r.go, r.m0⟩
  | .rtF _ _, q => fun ι e σ H p r => q ι e σ H p ⟨r.rl, g.trans r.go, r.m0, r.h0, r.ni, r.c⟩
  | .ex _ _ _ _, q => q
  | .no, q => q
theorem PS.imp {X : Cx} {st : Stmt} {t t' : TS} (h : PS X st t) (i : ∀ D σ H, t' D σ H → t D σ H) : PS X st t' := ⟨fun pins s σ H D I q => h.run pins s σ H D I (i D σ H q)⟩
theorem PSs.imp {X : Cx} {st : List Stmt} {t t' : TS} (h : PSs X st t) (i : ∀ D σ H, t' D σ H → t D σ H) : PSs X st t' := ⟨fun pins s σ H D I q => h.run pins s σ H D I (i D σ H q)⟩
/-- an own object is changed -/
theorem RS.ownSet {i : Nat} {a : Addr} {d d' : MP.D} {o : HO} (r : RS S B ι e h σ H) (q : e[i]? = some (.own d)) (qs : σ[i]? = some (some (.ref a))) (c : ContAt S.C ι (Mu S.M0 ι e σ) (upd H a o) a d') : RS S B ι (e.set i (.own d')) h σ (upd H a o) := by
  have rl := r.rl
  have hm : Mu S.M0 ι e σ a := .inr (.inr ⟨i, ⟨d, q⟩, qs⟩)
  have own : ∀ k b, OwnAt (e.set i (.own d')) σ k b → OwnAt e σ k b := fun k b ⟨⟨d2, q1⟩, q2⟩ => by
    rcases set_some q1 with ⟨rfl, z, _⟩ | ⟨z, q1⟩
    · exact ⟨⟨d, q⟩, q2⟩
    · exact ⟨⟨d2, q1⟩, q2⟩
  have g : Go ι (Mu S.M0 ι e σ) H ι (Mu S.M0 ι (e.set i (.own d')) σ) (upd H a o) := (Go.write hm).swap (mu_own own)
  obtain ⟨a', q1, q2, q3, q4⟩ := rl.own i d q
  rw [qs] at q1
  cases q1
  refine ⟨⟨by rw [List.length_set]; exact rl.len, fun k d2 z => ?_, fun k d2 z => ?_, fun k l b z w => rl.dist k l b (own k b z) (own l b w), rl.hl, rl.hd, fun n d2 z => ?_, fun b u z w => ?_, rl.fresh, rl.pre, fun b m => ?_⟩, r.go.trans g, r.m0⟩
  · rcases set_some z with ⟨_, w, _⟩ | ⟨_, z⟩
    · cases w
    · obtain ⟨v, h1, h2⟩ := rl.val k d2 z
      exact ⟨v, h1, h2.go g⟩
  · rcases set_some z with ⟨rfl, w, _⟩ | ⟨hk, z⟩
    · cases w
      exact ⟨a, qs, q2, q3, c.go (.less (mu_own own)) fun _ z => z⟩
    · obtain ⟨b, h1, h2, h3, h4⟩ := rl.own k d2 z
      have hb : b ≠ a := fun y => hk (rl.dist k i a ⟨⟨d2, z⟩, by rw [h1, y]⟩ ⟨⟨d, q⟩, qs⟩)
      exact ⟨b, h1, h2, h3, h4.go g fun u hu => by rw [upd_ne hb]; exact hu⟩
  · obtain ⟨b, h1, h2⟩ := rl.hp n d2 z
    have hb : b ≠ a := fun y => q3 (y ▸ List.mem_of_getElem? h1)
    exact ⟨b, h1, h2.go g fun u hu => by rw [upd_ne hb]; exact hu⟩
  · have hb : b ≠ a := fun y => by subst y; rw [q2] at z; cases z
    rw [upd_ne hb]; exact rl.kept b u z w
  · obtain ⟨u, hu⟩ := rl.mz b m
    by_cases hb : b = a
    · subst hb; exact ⟨_, upd_same⟩
    · exact ⟨u, by rw [upd_ne hb]; exact hu⟩
theorem own_new {i : Nat} {p : Addr} {d : MP.D} {k : Nat} {b : Addr} (q : OwnAt (e.set i (.own d)) (σ.set i (some (.ref p))) k b) : (k = i ∧ b = p) ∨ (k ≠ i ∧ OwnAt e σ k b) := by
  obtain ⟨⟨d2, q1⟩, q2⟩ := q
  rcases set_some q1 with ⟨rfl, z, _⟩ | ⟨z, q1⟩
  · rcases set_some q2 with ⟨_, z, _⟩ | ⟨z, _⟩
    · cases z; exact .inl ⟨rfl, rfl⟩
    · exact absurd rfl z
  · rcases set_some q2 with ⟨z', _⟩ | ⟨_, q2⟩
    · exact absurd z' z
    · exact .inr ⟨z, ⟨d2, q1⟩, q2⟩
theorem go_new {i : Nat} {p : Addr} {d : MP.D} {o : HO} (hp : H p = none) : Go ι (Mu S.M0 ι e σ) H ι (Mu S.M0 ι (e.set i (.own d)) (σ.set i (some (.ref p)))) (upd H p o) := by
  have mu : ∀ b, Mu S.M0 ι (e.set i (.own d)) (σ.set i (some (.ref p))) b → b = p ∨ Mu S.M0 ι e σ b := fun b m => by
    rcases m with m | m | ⟨k, m⟩
    · exact .inr (.inl m)
    · exact .inr (.inr (.inl m))
    · rcases own_new m with ⟨_, z⟩ | ⟨_, z⟩
      · exact .inl z
      · exact .inr (.inr (.inr ⟨k, z⟩))
  exact ⟨fun _ _ q => q, fun b u q _ => same_laid hp b u q, fun b u q m => (mu b m).elim (fun z => by subst z; rw [hp] at q; cases q) (fun z => z), fun _ z => .inl z, fun b u q => ⟨u, same_laid hp b u q⟩⟩
/-- a slot gets a new own object -/
theorem RS.ownNew {i : Nat} {p : Addr} {d : MP.D} {o : HO} (r : RS S B ι e h σ H) (hp : H p = none) (c : ContAt S.C ι (Mu S.M0 ι (e.set i (.own d)) (σ.set i (some (.ref p)))) (upd H p o) p d) : RS S B ι (e.set i (.own d)) h (σ.set i (some (.ref p))) (upd H p o) := by
  have rl := r.rl
  have g : Go ι (Mu S.M0 ι e σ) H ι (Mu S.M0 ι (e.set i (.own d)) (σ.set i (some (.ref p)))) (upd H p o) := go_new hp
  have npi : p ∉ ι := rl.notin hp
  have np0 : S.H0 p = none := by
    cases q : S.H0 p with
    | none => rfl
    | some u => have := rl.kept p u q (rl.noti0 hp); rw [hp] at this; cases this
  have ownH : ∀ {k : Nat} {b : Addr}, OwnAt e σ k b → b ≠ p := fun {k b} ⟨⟨d2, q1⟩, q2⟩ z => by
    obtain ⟨b', h1, _, _, h4⟩ := rl.own k d2 q1
    rw [q2] at h1
    cases h1
    obtain ⟨u, hu⟩ := h4.some
    rw [z, hp] at hu; cases hu
  refine ⟨⟨by rw [List.length_set, List.length_set]; exact rl.len, fun k d2 z => ?_, fun k d2 z => ?_, fun k l b z w => ?_, rl.hl, rl.hd, fun n d2 z => ?_, fun b u z w => same_laid hp b u (rl.kept b u z w), rl.fresh, rl.pre, fun b m => ?_⟩, r.go.trans g, r.m0⟩
  · rcases set_some z with ⟨_, w, _⟩ | ⟨hk, z⟩
    · cases w
    · obtain ⟨v, h1, h2⟩ := rl.val k d2 z
      exact ⟨v, by rw [List.getElem?_set_ne (fun y => hk y.symm)]; exact h1, h2.go g⟩
  · rcases set_some z with ⟨rfl, w, hl⟩ | ⟨hk, z⟩
    · cases w
      exact ⟨p, by rw [List.getElem?_set_self (by rw [← rl.len]; exact hl)], np0, npi, c⟩
    · obtain ⟨b, h1, h2, h3, h4⟩ := rl.own k d2 z
      exact ⟨b, by rw [List.getElem?_set_ne (fun y => hk y.symm)]; exact h1, h2, h3, h4.go g fun u hu => same_laid hp b u hu⟩
  · rcases own_new z with ⟨z1, z2⟩ | ⟨z1, z2⟩ <;> rcases own_new w with ⟨w1, w2⟩ | ⟨w1, w2⟩
    · rw [z1, w1]
    · subst z2; exact absurd rfl (ownH w2)
    · subst w2; exact absurd rfl (ownH z2)
    · exact rl.dist k l b z2 w2
  · obtain ⟨b, h1, h2⟩ := rl.hp n d2 z
    exact ⟨b, h1, h2.go g fun u hu => same_laid hp b u hu⟩
  · obtain ⟨u, hu⟩ := rl.mz b m
    exact ⟨u, same_laid hp b u hu⟩
/-- an own object is not changed from now on -/
theorem RS.freezeG {i : Nat} {d : MP.D} {a : Addr} {H2 : Hp} (r : RS S B ι e h σ H) (q : e[i]? = some (.own d)) (qs : σ[i]? = some (some (.ref a))) (eqH : ∀ b, b ≠ a → H2 b = H b) (hs : ∃ o, H2 a = some o) (g : Go ι (Mu S.M0 ι e σ) H ι (Mu S.M0 ι (e.set i (.val d)) σ) H2)
    (rp : ¬ Mu S.M0 ι (e.set i (.val d)) σ a → Rep S.C ι (Mu S.M0 ι (e.set i (.val d)) σ) H2 (.ref a) d) : RS S B ι (e.set i (.val d)) h σ H2 := by
  have rl := r.rl
  have own : ∀ k b, OwnAt (e.set i (.val d)) σ k b → k ≠ i ∧ OwnAt e σ k b := fun k b ⟨⟨d2, q1⟩, q2⟩ => by
    rcases set_some q1 with ⟨_, z, _⟩ | ⟨z, q1⟩
    · cases z
    · exact ⟨z, ⟨d2, q1⟩, q2⟩
  obtain ⟨a', h1, h2, h3, h4⟩ := rl.own i d q
  rw [qs] at h1
  cases h1
  have nm : ¬ Mu S.M0 ι (e.set i (.val d)) σ a := fun m => by
    rcases m with m | m | ⟨l, m⟩
    · obtain ⟨o, z⟩ := r.m0 a m; rw [h2] at z; cases z
    · exact h3 m
    · exact (own l a m).1 (rl.dist l i a (own l a m).2 ⟨⟨d, q⟩, qs⟩)
  refine ⟨⟨by rw [List.length_set]; exact rl.len, fun k d2 z => ?_, fun k d2 z => ?_, fun k l b z w => rl.dist k l b (own k b z).2 (own l b w).2, rl.hl, rl.hd, fun n d2 z => ?_, fun b u z w => ?_, rl.fresh, rl.pre, fun b m => ?_⟩, r.go.trans g, r.m0⟩
  · rcases set_some z with ⟨rfl, w, _⟩ | ⟨hk, z⟩
    · cases w
      exact ⟨_, qs, rp nm⟩
    · obtain ⟨v, g1, g2⟩ := rl.val k d2 z
      exact ⟨v, g1, g2.go g⟩
  · rcases set_some z with ⟨_, w, _⟩ | ⟨hk, z⟩
    · cases w
    · obtain ⟨b, g1, g2, g3, g4⟩ := rl.own k d2 z
      have hb : b ≠ a := fun y => hk (rl.dist k i a ⟨⟨d2, z⟩, by rw [g1, y]⟩ ⟨⟨d, q⟩, qs⟩)
      exact ⟨b, g1, g2, g3, g4.go g fun u hu => by rw [eqH b hb]; exact hu⟩
  · obtain ⟨b, g1, g2⟩ := rl.hp n d2 z
    have hb : b ≠ a := fun y => h3 (y ▸ List.mem_of_getElem? g1)
    exact ⟨b, g1, g2.go g fun u hu => by rw [eqH b hb]; exact hu⟩
  · have hb : b ≠ a := fun y => by subst y; rw [h2] at z; cases z
    rw [eqH b hb]; exact rl.kept b u z w
  · by_cases hb : b = a
    · subst hb; exact hs
    · obtain ⟨u, hu⟩ := rl.mz b m
      exact ⟨u, by rw [eqH b hb]; exact hu⟩
theorem RS.freeze {i : Nat} {d : MP.D} {R : Hp → Prop} (r : RS S B ι e h σ H) (q : e[i]? = some (.own d)) (K : ∀ H2, RS S B ι (e.set i (.val d)) h σ H2 → R H2) : LockQ R H := by
  obtain ⟨a, qs, h2, h3, h4⟩ := r.rl.own i d q
  have hm : Mu S.M0 ι e σ a := .inr (.inr ⟨i, ⟨d, q⟩, qs⟩)
  have mu : ∀ b, Mu S.M0 ι (e.set i (.val d)) σ b → Mu S.M0 ι e σ b := mu_own fun k b ⟨⟨d2, q1⟩, q2⟩ => by
    rcases set_some q1 with ⟨_, z, _⟩ | ⟨z, q1⟩
    · cases z
    · exact ⟨⟨d2, q1⟩, q2⟩
  have gl : Go ι (Mu S.M0 ι e σ) H ι (Mu S.M0 ι (e.set i (.val d)) σ) H := .less mu
  have gw : ∀ {o : HO}, Go ι (Mu S.M0 ι e σ) H ι (Mu S.M0 ι (e.set i (.val d)) σ) (upd H a o) := (Go.write hm).trans (.less mu)
  cases h4 with
  | lst z rs => exact .done (K H (r.freezeG q qs (fun _ _ => rfl) ⟨_, z⟩ gl fun nm => .lst nm z (rs.go gl)))
  | ins z rs => exact .done (K H (r.freezeG q qs (fun _ _ => rfl) ⟨_, z⟩ gl fun nm => .ins nm z (rs.go gl)))
  | dctK z rs => exact .lock z True.intro fun o => .done (K _ (r.freezeG q qs (fun b hb => upd_ne hb) ⟨_, upd_same⟩ gw fun nm => .dctK nm upd_same (rs.go gw)))
  | dctT z rs => exact .lock z True.intro fun o => .done (K _ (r.freezeG q qs (fun b hb => upd_ne hb) ⟨_, upd_same⟩ gw fun nm => .dctT nm upd_same (rs.go gw)))
/-- slots are forgotten -/
theorem RS.wip {is : List Nat} (r : RS S B ι e h σ H) : RS S B ι (wipeE e is) h σ H := by
  have own : ∀ i a, OwnAt (wipeE e is) σ i a → OwnAt e σ i a := fun i a ⟨⟨d, q⟩, q2⟩ => by
    rw [wipeE_get] at q
    split at q
    · cases z : e[i]? with
      | none => rw [z] at q; cases q
      | some s => rw [z] at q; cases q
    · exact ⟨⟨d, q⟩, q2⟩
  refine r.less (r.rl.re (by rw [wipeE_len]; exact r.rl.len) own (fun k d q => ?_) (fun k d q => ?_)) (mu_own own)
  · rw [wipeE_get] at q
    split at q
    · cases z : e[k]? with
      | none => rw [z] at q; cases q
      | some s => rw [z] at q; cases q
    · exact r.rl.val k d q
  · rw [wipeE_get] at q
    split at q
    · cases z : e[k]? with
      | none => rw [z] at q; cases q
      | some s => rw [z] at q; cases q
    · exact ⟨q, rfl⟩
/-- a slot takes a new object that nothing else knows -/
theorem RS.ownF {i : Nat} {p : Addr} {d : MP.D} (r : RS S B ι e h σ H) (hp : H p = none) (ni : p ∉ ι') (g : Go ι (Mu S.M0 ι e σ) H ι' (Mu (SP1 S p).M0 ι' e σ) H') (rl : Rel (SP1 S p) ι' e h' σ H') (c : ContAt S.C ι' (Mu (SP1 S p).M0 ι' e σ) H' p d) : RS S B ι' (e.set i (.own d)) h' (σ.set i (some (.ref p))) H' := by
  have sub : ∀ b, Mu S.M0 ι' (e.set i (.own d)) (σ.set i (some (.ref p))) b → Mu (SP1 S p).M0 ι' e σ b := fun b m => by
    rcases m with m | m | ⟨k, m⟩
    · exact .inl (.inl m)
    · exact .inr (.inl m)
    · rcases own_new m with ⟨_, z⟩ | ⟨_, z⟩
      · exact .inl (.inr z)
      · exact .inr (.inr ⟨k, z⟩)
  have gl : Go ι' (Mu (SP1 S p).M0 ι' e σ) H' ι' (Mu S.M0 ι' (e.set i (.own d)) (σ.set i (some (.ref p)))) H' := .less sub
  have ownH : ∀ {k : Nat} {b : Addr}, OwnAt e σ k b → b ≠ p := fun {k b} z w => r.rl.noOwnP hp k (w ▸ z)
  refine ⟨⟨by rw [List.length_set, List.length_set]; exact rl.len, fun k d2 z => ?_, fun k d2 z => ?_, fun k l b z w => ?_, rl.hl, rl.hd, fun n d2 z => ?_, rl.kept, rl.fresh, rl.pre, fun b m => rl.mz b (.inl m)⟩, r.go.trans (g.trans gl), r.m0⟩
  · rcases set_some z with ⟨_, w, _⟩ | ⟨hk, z⟩
    · cases w
    · obtain ⟨v, h1, h2⟩ := rl.val k d2 z
      exact ⟨v, by rw [List.getElem?_set_ne (fun y => hk y.symm)]; exact h1, h2.go gl⟩
  · rcases set_some z with ⟨rfl, w, hl⟩ | ⟨hk, z⟩
    · cases w
      exact ⟨p, by rw [List.getElem?_set_self (by rw [← rl.len]; exact hl)], r.rl.h0P hp, ni, c.go gl fun _ z => z⟩
    · obtain ⟨b, h1, h2, h3, h4⟩ := rl.own k d2 z
      exact ⟨b, by rw [List.getElem?_set_ne (fun y => hk y.symm)]; exact h1, h2, h3, h4.go gl fun _ z => z⟩
  · rcases own_new z with ⟨z1, z2⟩ | ⟨z1, z2⟩ <;> rcases own_new w with ⟨w1, w2⟩ | ⟨w1, w2⟩
    · rw [z1, w1]
    · subst z2; exact absurd rfl (ownH w2)
    · subst w2; exact absurd rfl (ownH z2)
    · exact rl.dist k l b z2 w2
  · obtain ⟨b, h1, h2⟩ := rl.hp n d2 z
    exact ⟨b, h1, h2.go gl fun _ z => z⟩
/-- a new object becomes a shared one -/
theorem RS.share {p : Addr} {d : MP.D} (r : RS S B ι e h σ H) (hp : H p = none) (ni : p ∉ ι') (g : Go ι (Mu S.M0 ι e σ) H ι' (Mu (SP1 S p).M0 ι' e σ) H') (rl : Rel (SP1 S p) ι' e h' σ H') (c : ContAt S.C ι' (Mu (SP1 S p).M0 ι' e σ) H' p d) : RS S B (ι' ++ [p]) e (h' ++ [d]) σ H' := by
  have mem : ∀ {b}, b ∈ ι' ++ [p] → b ∈ ι' ∨ b = p := fun z => by simpa using z
  have sub : ∀ b, Mu S.M0 (ι' ++ [p]) e σ b → Mu (SP1 S p).M0 ι' e σ b := fun b m => by
    rcases m with m | m | m
    · exact .inl (.inl m)
    · rcases mem m with m | m
      · exact .inr (.inl m)
      · exact .inl (.inr m)
    · exact .inr (.inr m)
  have pre : ∀ (n : Nat) (a : Addr), ι'[n]? = some a → (ι' ++ [p])[n]? = some a := fun n a q => by
    have hl : n < ι'.length := by
      by_cases w : n < ι'.length
      · exact w
      · rw [List.getElem?_eq_none (by omega)] at q; cases q
    rw [List.getElem?_append_left hl]; exact q
  have h0p := r.rl.h0P hp
  have gl : Go ι (Mu S.M0 ι e σ) H (ι' ++ [p]) (Mu S.M0 (ι' ++ [p]) e σ) H' := ⟨fun n a q => pre n a (g.pre n a q), g.kept, fun a o q m => g.new a o q (sub a m), fun a m => (mem m).elim (g.nw a) fun z => (by subst z; exact .inr hp), g.live⟩
  refine ⟨⟨rl.len, fun k d2 z => ?_, fun k d2 z => ?_, rl.dist, ?_, ?_, fun n d2 z => ?_, rl.kept, fun b m => ?_, fun n a q => pre n a (rl.pre n a q), fun b m => rl.mz b (.inl m)⟩, r.go.trans gl, r.m0⟩
  · obtain ⟨v, h1, h2⟩ := rl.val k d2 z
    exact ⟨v, h1, h2.wide pre sub⟩
  · obtain ⟨b, h1, h2, h3, h4⟩ := rl.own k d2 z
    refine ⟨b, h1, h2, fun m => ?_, h4.wide pre sub⟩
    rcases mem m with m | m
    · exact h3 m
    · subst m; exact r.rl.noOwnP hp k ⟨⟨d2, z⟩, h1⟩
  · rw [List.length_append, List.length_append, rl.hl]; rfl
  · rw [List.nodup_append]
    refine ⟨rl.hd, by simp, fun a ha b hb z => ?_⟩
    have : b = p := by simpa using hb
    subst this
    exact ni (z ▸ ha)
  · by_cases hlt : n < h'.length
    · rw [List.getElem?_append_left hlt] at z
      obtain ⟨b, h1, h2⟩ := rl.hp n d2 z
      exact ⟨b, pre n b h1, h2.wide pre sub⟩
    · by_cases hn : n = h'.length
      · subst hn
        rw [List.getElem?_append_right (Nat.le_refl _), Nat.sub_self] at z
        cases z
        refine ⟨p, ?_, c.wide pre sub⟩
        rw [← rl.hl, List.getElem?_append_right (Nat.le_refl _), Nat.sub_self]
        rfl
      · rw [List.getElem?_eq_none (by rw [List.length_append]; show h'.length + 1 ≤ n; omega)] at z
        cases z
  · rcases mem m with m | m
    · exact rl.fresh b m
    · subst m; exact .inr h0p
end
end MP

set_option maxRecDepth 100000
set_option maxHeartbeats 1000000
/-! MP21: statements, a lemma for each form. -/
namespace MP
open PySem PySem.Spec PyProof.Rows L2

structure Gs (tb : Tb) (Φ : Nat → List D → MH → R D) (x : Tx) (N : List Str) (j : Nat) (S : SC) (X : Cx) : Prop extends Gd tb Φ x N j S X where
  fnT : ∀ y, X.fn y = true
  own : PassesOwn (model X.prog X.w) X.A X.env X.xe
  kind : X.env.scope.kind = .function
theorem comp_sw {e : Expr} {t : Option Expr} {l : Nat} {env : Env} (h : isComp e = false) : swapsWith e t l env = pure false := by
  cases e <;> first | rfl | cases h
theorem lc_sw {e : Expr} {y : Str} {py : Pos} {l : Nat} {env : Env} (hl : isLc e = true) (hk : env.scope.kind = .function) (h : locL env.scope y = false) : swapsWith e (some (.Name y py)) l env = pure false := by
  have hb : env.blockKind = .function := by unfold Env.blockKind; rw [hk]; rfl
  have ky : (env.kindOf y == some NameKind.local) = false := by
    unfold locL at h
    show (env.scope.names.lookup y == some NameKind.local) = false
    split at h
    · cases h
    · rename_i w
      cases z : env.scope.names.lookup y with
      | none => rfl
      | some k => cases k <;> first | rfl | exact absurd z w
  cases e <;> first | (cases hl; done) | skip
  all_goals (unfold swapsWith; simp only [hb, ky]; rfl)
theorem lc_sw2 {ee : Expr} {gs : List Comprehension} {s : Scope} {p : Pos} {y : Str} {py : Pos} {l : Nat} {env : Env} (hk : env.scope.kind = .function) (h : swB env.scope y py (.ListComp ee gs s p) = true) : env.scope.names.lookup y = some .local ∧ swapsWith (.ListComp ee gs s p) (some (.Name y py)) l env = pure true := by
  obtain ⟨h1, h2, h3⟩ := and3 h
  have hy : env.scope.names.lookup y = some .local := by
    unfold locL at h1
    split at h1
    · assumption
    · cases h1
  exact ⟨hy, sw_true hk hy h2 ((Bool.not_eq_true' _).mp h3)⟩
section
variable {tb : Tb} {Φ : Nat → List D → MH → R D} {x : Tx} {N : List Str} {j : Nat} {S : SC} {B : Bp} {X : Cx} {e ea eb ec : Expr} {a b c m : M} {pos p p2 py : Pos} {y : Str}

theorem s_expr (ha : PE X e (tE tb Φ S a)) (hc : isComp e = false) : PS X (.Expr e pos) (tS tb Φ S (.expr a)) :=
  PS.imp (ps_expr ha (comp_sw hc)) fun D σ H ⟨B, ι, e, h, r, q⟩ => by
    obtain ⟨d, h', eq, q⟩ := st_ok q
    exact ⟨ι, e, h, r.rl, d, h', eq, fun ι' H' v g rl rp => q ι' σ H' (r.step g rl)⟩
theorem set_core {i : Nat} {D : Ends} {σ : L2.St} {H : Hp} (q : tS tb Φ S (.set i a) D σ H) : tE tb Φ S a σ H (fun v H1 => gName i v σ H1 D.nx) := by
  obtain ⟨B, ι, e, h, r, q⟩ := q
  obtain ⟨d, h', eq, q⟩ := st_ok q
  exact ⟨ι, e, h, r.rl, d, h', eq, fun ι' H' v g rl rp => q ι' _ H' ((r.step g rl).setVal rp)⟩
theorem s_set {i : Nat} (G : Gs tb Φ x N j S X) (h1 : N[i]? = some y) (h2 : locB X.env.scope y = true) (ha : PE X e (tE tb Φ S a)) (hc : swapsWith e (some (.Name y py)) pos.line X.env = pure false) : PS X (.Assign [.Name y py] e pos) (tS tb Φ S (.set i a)) :=
  PS.imp (ps_set (by rw [G.nm]; exact G.nd) (by rw [G.nm]; exact h1) (locB_of h2) ha hc (.inl (G.fnT y))) fun D σ H q => set_core q
theorem setF_core {i : Nat} {D : Ends} {σ : L2.St} {H : Hp} (q : tS tb Φ S (.setN i a) D σ H) : tF tb Φ S a σ H (fun v H1 => gName i v σ H1 D.nx) := by
  obtain ⟨B, ι, e, h, r, q⟩ := q
  obtain ⟨d, h', eq, q⟩ := st_ok q
  obtain ⟨q1, q⟩ : ∃ _ : freshD d = true, OutS S B D (.nx (e.set i (.own d)) h') := by
    split at q
    · exact ⟨by assumption, q⟩
    · exact q.elim
  exact ⟨ι, e, h, r.rl, d, h', eq, fun ι' H' p hp ni g rl c => q ι' _ H' (r.ownF hp ni g rl c)⟩
theorem s_setF {i : Nat} (G : Gs tb Φ x N j S X) (h1 : N[i]? = some y) (h2 : locB X.env.scope y = true) (ha : PE X e (tF tb Φ S a)) (hc : swapsWith e (some (.Name y py)) pos.line X.env = pure false) : PS X (.Assign [.Name y py] e pos) (tS tb Φ S (.setN i a)) :=
  PS.imp (ps_set (by rw [G.nm]; exact G.nd) (by rw [G.nm]; exact h1) (locB_of h2) ha hc (.inl (G.fnT y))) fun D σ H q => setF_core q
theorem PS.lock {st : Stmt} {t : TS} (h : PS X st t) : PS X st (fun D σ H => t ⟨fun σ H => LockQ (D.nx σ) H, fun v H => LockQ (D.rt v) H, fun σ H => LockQ (D.bk σ) H, fun σ H => LockQ (D.ct σ) H⟩ σ H) := ⟨fun pins s σ H D I q =>
  thn (h.run pins s σ H _ I q) fun f s1 z => by
    cases f with
    | next => obtain ⟨σ', H', I', l⟩ := z; obtain ⟨H2, I2, q2⟩ := l.run I'; exact ⟨σ', H2, I2, q2⟩
    | brk => obtain ⟨σ', H', I', l⟩ := z; obtain ⟨H2, I2, q2⟩ := l.run I'; exact ⟨σ', H2, I2, q2⟩
    | cont => obtain ⟨σ', H', I', l⟩ := z; obtain ⟨H2, I2, q2⟩ := l.run I'; exact ⟨σ', H2, I2, q2⟩
    | ret u => obtain ⟨v, σ', H', I', rv, l⟩ := z; obtain ⟨H2, I2, q2⟩ := l.run I'; exact ⟨v, σ', H2, I2, rv, q2⟩⟩
/-- a new list or dict becomes a slot's value -/
theorem setFv_core {i : Nat} {D : Ends} {σ : L2.St} {H : Hp} (q : tS tb Φ S (.set i a) D σ H) : tF tb Φ S a σ H (fun v H1 => gName i v σ H1 fun σ H => LockQ (D.nx σ) H) := by
  obtain ⟨B, ι, e, h, r, q⟩ := q
  obtain ⟨d, h', eq, q⟩ := st_ok q
  exact ⟨ι, e, h, r.rl, d, h', eq, fun ι' H' p hp ni g rl c => F_rep r.rl hp ni g rl c fun H2 g2 rl2 rp => q ι' _ H2 ((r.step g2 rl2).setVal rp)⟩
theorem s_retF (ha : PE X e (tF tb Φ S a)) : PS X (.Return (some e) pos) (tS tb Φ S (.retF a)) :=
  PS.imp (ps_ret ha) fun D σ H ⟨B, ι, e, h, r, q⟩ => by
    obtain ⟨d, h', eq, q⟩ := st_ok q
    obtain ⟨q1, q⟩ : ∃ _ : freshD d = true, OutS S B D (.rtF d h') := by
      split at q
      · exact ⟨by assumption, q⟩
      · exact q.elim
    exact ⟨ι, e, h, r.rl, d, h', eq, fun ι' H' p hp ni g rl c => q ι' e σ H' p ⟨rl, r.go.trans g, r.m0, r.rl.h0P hp, ni, c⟩⟩
theorem s_retO {i : Nat} (G : Gs tb Φ x N j S X) (h1 : N[i]? = some y) (h2 : visB X.env.scope y = true) (h3 : dbgOk y = true) : PS X (.Return (some (.Name y py)) pos) (tS tb Φ S (.retO i)) :=
  PS.imp (ps_ret (pe_var (show X.N[i]? = some y by rw [G.nm]; exact h1) (visB_of h2) (dbg1 h3) (dbg2 h3))) fun D σ H ⟨B, ι, e, h, r, q⟩ => by
    have q' : OutS S B D (match e[i]? with
      | some (.own d) => if freshD d then O.rtF d h else .no
      | _ => .no) := q
    split at q'
    · rename_i d hd
      split at q'
      · obtain ⟨a, qs, z1, z2, c⟩ := r.rl.own i d hd
        have hm : Mu S.M0 ι e σ a := .inr (.inr ⟨i, ⟨d, hd⟩, qs⟩)
        have sub : ∀ b, Mu (SP1 S a).M0 ι e σ b → Mu S.M0 ι e σ b := fun b m => (SP1.mu.mp m).elim (fun z => z) fun z => by rw [z]; exact hm
        have gl : Go ι (Mu S.M0 ι e σ) H ι (Mu (SP1 S a).M0 ι e σ) H := .less sub
        refine ⟨_, qs, q' ι e σ H a ⟨⟨r.rl.len, fun k d2 z => ?_, fun k d2 z => ?_, r.rl.dist, r.rl.hl, r.rl.hd, fun n d2 z => ?_, r.rl.kept, r.rl.fresh, r.rl.pre, fun b m => r.rl.there (sub b (.inl m))⟩, r.go.trans gl, r.m0, z1, z2, c.go gl fun _ z => z⟩⟩
        · obtain ⟨v, g1, g2⟩ := r.rl.val k d2 z
          exact ⟨v, g1, g2.go gl⟩
        · obtain ⟨b, g1, g2, g3, g4⟩ := r.rl.own k d2 z
          exact ⟨b, g1, g2, g3, g4.go gl fun _ z => z⟩
        · obtain ⟨b, g1, g2⟩ := r.rl.hp n d2 z
          exact ⟨b, g1, g2.go gl fun _ z => z⟩
      · exact q'.elim
    · exact q'.elim
theorem s_unp {is : List Nat} {es : List Expr} {k : Nat} {pt : Pos} (G : Gs tb Φ x N j S X) (h1 : chkNms N X.env.scope is es = true) (h2 : 2 ≤ is.length) (ha : PE X e (tE tb Φ S a)) (hc : isComp e = false) (ht : isTupE e = false) : PS X (.Assign [.Tuple es k pt] e pos) (tS tb Φ S (.unp is a)) := by
  have hK : S.C.K = X.K := by rw [G.C]
  have hg := g_pat (tb := tb) (C := S.C) (p := .tp is) (tg := .Tuple es k pt) (s0 := X.env.scope) hK G.calm (by rw [G.nm]; exact G.nd) (fun y hy => ⟨locB_of hy, .inl (G.fnT y)⟩) (by
    show (chkNms X.N X.env.scope is es && decide (2 ≤ is.length)) = true
    rw [G.nm, h1, decide_eq_true h2]; rfl)
  refine PS.imp (ps_asg ha hg (show swapsWithSole [.Tuple es k pt] e pos.line X.env = pure false from comp_sw (t := some (.Tuple es k pt)) (l := pos.line) (env := X.env) hc) (by cases e <;> first | rfl | cases ht)) fun D σ H ⟨B, ι, e, h, r, q⟩ => ?_
  obtain ⟨d, h', eq, q⟩ := st_ok q
  refine ⟨ι, e, h, r.rl, d, h', eq, fun ι' H' v g rl rp => ?_⟩
  have r' := r.step g rl
  cases hb : bindP (.tp is) d e with
  | none => rw [hb] at q; exact q.elim
  | some e' =>
    rw [hb] at q
    exact ⟨S, ι', e, h', d, e', rfl, rl, rp, hb, fun σ' rl' ow _ => q ι' σ' H' (r'.less rl' (mu_own ow))⟩
theorem s_aug {i : Nat} {op : Bop} (G : Gs tb Φ x N j S X) (h1 : N[i]? = some y) (h2 : locB X.env.scope y = true) (ha : PE X e (tE tb Φ S a)) : PS X (.AugAssign (.Name y py) (bopOf op) e pos) (tS tb Φ S (.aug i op a)) := by
  have core : ∀ (f : Int → Int → Int), PIp X (bopOf op) (ipI f) → (∀ (x y z : MP.D), augD op x y = some z → ∃ i j, x = .int i ∧ y = .int j ∧ z = .int (f i j)) → PS X (.AugAssign (.Name y py) (bopOf op) e pos) (tS tb Φ S (.aug i op a)) := fun f hi hf =>
    PS.imp (ps_aug (by rw [G.nm]; exact G.nd) (by rw [G.nm]; exact h1) (locB_of h2) ha hi (.inl (G.fnT y))) fun D σ H ⟨B, ι, e, h, r, q⟩ => by
      have q' : OutS S B D (match e[i]? with
        | some (.val x) => (ev tb Φ a e h).st e fun y h => (match augD op x y with
          | some z => .nx (e.set i (.val z)) h
          | none => .no)
        | _ => .no) := q
      split at q'
      · rename_i x hx
        obtain ⟨v, hv, rv⟩ := r.rl.val i _ hx
        obtain ⟨d, h', eq, q2⟩ := st_ok q'
        refine ⟨_, hv, ι, e, h, r.rl, d, h', eq, fun ι' H' v' g rl rp => ?_⟩
        cases hz : augD op x d with
        | none => rw [hz] at q2; exact q2.elim
        | some z =>
          rw [hz] at q2
          obtain ⟨i1, j1, rfl, rfl, rfl⟩ := hf _ _ _ hz
          cases rv
          cases rp
          exact ⟨i1, j1, rfl, rfl, q2 ι' _ H' ((r.step g rl).setVal (.int _))⟩
      · exact q'.elim
  have none_ : (∀ x y, augD op x y = none) → PS X (.AugAssign (.Name y py) (bopOf op) e pos) (tS tb Φ S (.aug i op a)) := fun hf =>
    ⟨fun pins s σ H D I ⟨B, ι, e, h, r, q⟩ => by
      have q' : OutS S B D (match e[i]? with
        | some (.val x) => (ev tb Φ a e h).st e fun y h => (match augD op x y with
          | some z => .nx (e.set i (.val z)) h
          | none => .no)
        | _ => .no) := q
      split at q'
      · obtain ⟨d, h', eq, q2⟩ := st_ok q'
        rw [hf] at q2
        exact q2.elim
      · exact q'.elim⟩
  cases op with
  | add => exact core (fun i j => i + j) ip_add fun x y z hz => by cases x <;> cases y <;> cases hz; exact ⟨_, _, rfl, rfl, rfl⟩
  | sub => exact core (fun i j => i - j) ip_sub fun x y z hz => by cases x <;> cases y <;> cases hz; exact ⟨_, _, rfl, rfl, rfl⟩
  | _ => exact none_ fun x y => by cases x <;> cases y <;> rfl
theorem s_ret (ha : PE X e (tE tb Φ S a)) : PS X (.Return (some e) pos) (tS tb Φ S (.ret a)) :=
  PS.imp (ps_ret ha) fun D σ H ⟨B, ι, e, h, r, q⟩ => by
    obtain ⟨d, h', eq, q⟩ := st_ok q
    exact ⟨ι, e, h, r.rl, d, h', eq, fun ι' H' v g rl rp => q ι' e σ H' v (r.step g rl) rp⟩
theorem s_retn : PS X (.Return none pos) (tS tb Φ S .retn) := PS.imp ps_retN fun D σ H ⟨B, ι, e, h, r, q⟩ => q ι e σ H .non r .non
theorem s_brk : PS X (.Break pos) (tS tb Φ S .brk) := PS.imp ps_break fun D σ H ⟨B, ι, e, h, r, q⟩ => q ι σ H r
theorem s_cnt : PS X (.Continue pos) (tS tb Φ S .cnt) := PS.imp ps_continue fun D σ H ⟨B, ι, e, h, r, q⟩ => q ι σ H r
theorem s_pass : PS X (.Pass pos) (tS tb Φ S .pass) := PS.imp ps_pass fun D σ H ⟨B, ι, e, h, r, q⟩ => q ι σ H r
theorem s_never {st : Stmt} : PS X st (tS tb Φ S .never) := PS.imp ps_never fun D σ H ⟨B, ι, e, h, r, q⟩ => q
theorem s_if {tc : T} {ta tu : Ss} {sa sb : List Stmt} (hc : PT X ec (tT tb Φ S tc)) (ha : PSs X sa (tSs tb Φ S ta)) (hb : PSs X sb (tSs tb Φ S tu)) : PS X (.If ec sa sb pos) (tS tb Φ S (.iff tc ta tu)) :=
  PS.imp (ps_if hc ha hb) fun D σ H ⟨B, ι, e, h, r, q⟩ => by
    obtain ⟨t, h', eq, q⟩ := st_ok q
    refine ⟨ι, e, h, r.rl, t, h', eq, fun ι' H' g rl => ?_⟩
    cases t with
    | true => exact ⟨B, ι', e, h', r.step g rl, q⟩
    | false => exact ⟨B, ι', e, h', r.step g rl, q⟩
theorem loopW_succ {cF : Ev → MH → R Bool} {bF : Ev → MH → O} {n : Nat} {e : Ev} {h : MH} {D : Ends} (q : OutS S B D (loopW cF bF n e h)) : ∃ k, n = k + 1 ∧ ∃ t h', cF e h = .ok t h' ∧ (t = false → OutS S B D (.nx e h')) ∧ (t = true → OutS S B { D with nx := fun σ H => ∃ ι e h, RS S B ι e h σ H ∧ OutS S B D (loopW cF bF k e h), ct := fun σ H => ∃ ι e h, RS S B ι e h σ H ∧ OutS S B D (loopW cF bF k e h), bk := D.nx } (bF e h')) := by
  cases n with
  | zero => exact q.elim
  | succ k =>
    refine ⟨k, rfl, ?_⟩
    have q' : OutS S B D (match cF e h with
      | .ok true h => (match bF e h with
        | .nx e h => loopW cF bF k e h
        | .ct e h => loopW cF bF k e h
        | .bk e h => .nx e h
        | o => o)
      | .ok false h => .nx e h
      | .ex c fs h => .ex c fs e h
      | .no => .no) := q
    cases hc : cF e h with
    | no => rw [hc] at q'; exact q'.elim
    | ex c fs h' => rw [hc] at q'; exact q'.elim
    | ok t h' =>
      rw [hc] at q'
      refine ⟨t, h', rfl, fun z => by subst z; exact q', fun z => ?_⟩
      subst z
      have q2 : OutS S B D (match bF e h' with
        | .nx e h => loopW cF bF k e h
        | .ct e h => loopW cF bF k e h
        | .bk e h => .nx e h
        | o => o) := q'
      cases hb : bF e h' with
      | nx e2 h2 => rw [hb] at q2; exact fun ι σ H r => ⟨ι, e2, h2, r, q2⟩
      | ct e2 h2 => rw [hb] at q2; exact fun ι σ H r => ⟨ι, e2, h2, r, q2⟩
      | bk e2 h2 => rw [hb] at q2; exact q2
      | rt d h2 => rw [hb] at q2; exact q2
      | rtF d h2 => rw [hb] at q2; exact q2
      | ex c fs e2 h2 => rw [hb] at q2; exact q2
      | no => rw [hb] at q2; exact q2
theorem s_whl {tc : T} {tbd : Ss} {sb : List Stmt} (G : Gs tb Φ x N j S X) (hc : PT X ec (tT tb Φ S tc)) (hb : PSs X sb (tSs tb Φ S tbd)) : PS X (.While ec sb [] pos) (tS tb Φ S (.whl tc tbd)) :=
  PS.imp (ps_while G.own hc hb) fun D σ H ⟨B, ι, e, h, r, q⟩ => by
    refine ⟨fun m σ H => ∃ ι e h, RS S B ι e h σ H ∧ OutS S B D (loopW (fun e h => evT tb Φ tc e h) (fun e h => execs tb Φ tbd e h) m e h), ⟨tb.N, ι, e, h, r, q⟩, ?_⟩
    rintro m σ1 H1 ⟨ι1, e1, h1, r1, q1⟩
    obtain ⟨k, rfl, t, h', ht, qf, qt⟩ := loopW_succ q1
    refine ⟨ι1, e1, h1, r1.rl, t, h', ht, fun ι2 H2 g rl => ?_⟩
    cases t with
    | false => exact qf rfl ι2 σ1 H2 (r1.step g rl)
    | true =>
      rw [if_pos rfl]
      exact ⟨_, fun σ' H' z => ⟨k, Nat.lt_succ_self k, z⟩, B, ι2, e1, h', r1.step g rl, qt rfl⟩
theorem loopF_out {B' : Bp} (g : Go B.i B.M B.H B'.i B'.M B'.H) {fF : D → Ev → MH → O} {d : D} {l : List D} {e : Ev} {h : MH} {D : Ends} (q : OutS S B D (loopF fF (d :: l) e h)) : OutS S B' { D with nx := fun σ H => ∃ ι e h, RS S B' ι e h σ H ∧ OutS S B D (loopF fF l e h), ct := fun σ H => ∃ ι e h, RS S B' ι e h σ H ∧ OutS S B D (loopF fF l e h), bk := D.nx } (fF d e h) := by
  have q' : OutS S B D (match fF d e h with
    | .nx e h => loopF fF l e h
    | .ct e h => loopF fF l e h
    | .bk e h => .nx e h
    | o => o) := q
  cases hb : fF d e h with
  | nx e2 h2 => rw [hb] at q'; exact fun ι σ H r => ⟨ι, e2, h2, r, q'⟩
  | ct e2 h2 => rw [hb] at q'; exact fun ι σ H r => ⟨ι, e2, h2, r, q'⟩
  | bk e2 h2 => rw [hb] at q'; exact fun ι σ H r => q' ι σ H ⟨r.rl, g.trans r.go, r.m0⟩
  | rt d h2 => rw [hb] at q'; exact fun ι e σ H v r => q' ι e σ H v ⟨r.rl, g.trans r.go, r.m0⟩
  | rtF d h2 => rw [hb] at q'; exact fun ι e σ H p r => q' ι e σ H p ⟨r.rl, g.trans r.go, r.m0, r.h0, r.ni, r.c⟩
  | ex c fs e2 h2 => rw [hb] at q'; exact q'
  | no => rw [hb] at q'; exact q'
theorem s_for {pt : Pat} {it : It} {tbd : Ss} {tg iter : Expr} {sb : List Stmt} (G : Gs tb Φ x N j S X) (hg : chkP N X.env.scope pt tg = true) (hp : plainA iter = true) (hi : PI X tg iter (tI tb Φ S it)) (hb : PSs X sb (tSs tb Φ S tbd)) : PS X (.For tg iter sb [] pos) (tS tb Φ S (.forr pt it tbd)) := by
  have hK : S.C.K = X.K := by rw [G.C]
  have hpg := g_pat (tb := tb) (C := S.C) (p := pt) (tg := tg) (s0 := X.env.scope) hK G.calm (by rw [G.nm]; exact G.nd) (fun y hy => ⟨locB_of hy, .inl (G.fnT y)⟩) (by rw [G.nm]; exact hg)
  refine PS.imp (ps_for G.own G.calm hi hpg hb (plain_fold hp X.env)) fun D σ H ⟨B, ι, e, h, r, q⟩ => ?_
  have q' : OutS S B D (if ownIt e it then .no else (evI tb Φ it e h).st e fun ds h => loopF (fun d e h => (match bindP pt d e with
    | some e => execs tb Φ tbd e h
    | none => .no)) ds e h) := q
  split at q'
  · exact q'.elim
  · obtain ⟨ds, h1, eq, q1⟩ := st_ok q'
    refine ⟨ι, e, h, r.rl, ds, h1, eq, fun ι1 H1 J g1 rl1 wk => ?_⟩
    -- the loop
    have r1 := r.step g1 rl1
    refine ⟨fun i m σ' H' => m = ds.length - i ∧ i ≤ ds.length ∧ ∃ ι' e' h', RS S ⟨ι1, Mu S.M0 ι1 e σ, H1⟩ ι' e' h' σ' H' ∧ OutS S B D (loopF (fun d e h => (match bindP pt d e with
      | some e => execs tb Φ tbd e h
      | none => .no)) (ds.drop i) e' h'), ⟨_, rfl, Nat.zero_le _, ι1, e, h1, ⟨rl1, .refl, r.m0⟩, q1⟩, ?_⟩
    rintro i m σ2 H2 ⟨rfl, hi, ι2, e2, h2, r2, q2⟩
    have w := wk _ _ _ r2.go i
    by_cases hlt : i < ds.length
    · rw [List.drop_eq_getElem_cons hlt] at q2
      have q3 := loopF_out (B' := ⟨ι1, Mu S.M0 ι1 e σ, H1⟩) r1.go q2
      obtain ⟨go, yl⟩ := w.1 _ (List.getElem?_eq_getElem hlt)
      refine .inr ⟨go, fun σ' H' => ∃ ι' e' h', RS S ⟨ι1, Mu S.M0 ι1 e σ, H1⟩ ι' e' h' σ' H' ∧ OutS S B D (loopF (fun d e h => (match bindP pt d e with
        | some e => execs tb Φ tbd e h
        | none => .no)) (ds.drop (i + 1)) e' h'), fun σ' H' z => ⟨ds.length - (i + 1), by omega, rfl, hlt, z⟩, fun v H3 hy => ?_⟩
      obtain ⟨sm, rv⟩ := yl v H3 hy
      have r3 := r2.step (.same sm) (r2.rl.grow sm)
      cases hb : bindP pt ds[i] e2 with
      | none => simp only [hb] at q3; exact q3.elim
      | some e3 =>
        simp only [hb] at q3
        refine ⟨S, ι2, e2, h2, _, e3, rfl, r3.rl, rv, hb, fun σ' rl' ow _ => ?_⟩
        refine ⟨⟨ι1, Mu S.M0 ι1 e σ, H1⟩, ι2, e3, h2, r3.less rl' (mu_own ow), ?_⟩
        exact q3
    · have e0 : i = ds.length := by omega
      subst e0
      rw [List.drop_length] at q2
      exact .inl ⟨w.2 (Nat.le_refl _), q2 ι2 σ2 H2 ⟨r2.rl, r1.go.trans r2.go, r2.m0⟩⟩
end
end MP

set_option maxRecDepth 100000
set_option maxHeartbeats 1000000
/-! MP22: append, fields stored, comprehensions stored; all statements. -/
namespace MP
open PySem PySem.Spec PyProof.Rows L2

section
variable {tb : Tb} {Φ : Nat → List D → MH → R D} {x : Tx} {N : List Str} {j : Nat} {S : SC} {B : Bp} {X : Cx} {e ea eb ec : Expr} {a b c m : M} {pos p p2 py : Pos} {y : Str}
theorem s_app {i : Nat} {ap cp : Pos} (G : Gs tb Φ x N j S X) (h1 : N[i]? = some y) (h2 : visB X.env.scope y = true) (h3 : dbgOk y = true) (hp : plainA e = true) (hl : (ap.endLine == cp.line) = true) (ha : PE X e (tE tb Φ S a)) :
    PS X (.Expr (.Call (.Attribute (.Name y py) "append" ap) [e] [] cp) pos) (tS tb Φ S (.app i a)) := by
  have ho := e_var (pos := py) G.toGd rfl h1 h2 h3
  have hf : ((backTo cp (starEach [e] X.env)).all (fun x => !x.1) && (backToKw cp (keywordEach [] X.env)).all (fun x => x.1.isSome)
      && decide ([e].length + ([] : List Keyword).length + (if ([] : List Keyword).isEmpty then 0 else 1) < 30)) = true := by
    rw [plain_star hp]; rfl
  refine PS.imp (ps_expr (pe_bm (T := "list") (id := "list.append") F.plainAttrs_list F.slot_list_append F.type_list_append mt_append ho (pa_cons ha pa_nil (plain_star hp)) rfl hf hl (plain_star hp) rfl) rfl) fun D σ H ⟨B, ι, e, h, r, q⟩ => ?_
  obtain ⟨d, h', eq, q⟩ := st_ok q
  have hi : ∃ l, e[i]? = some (.own (.lst l)) ∧ l.length < lim ∧ OutS S B D (.nx (e.set i (.own (.lst (l ++ [d])))) h') := by
    have q' : OutS S B D (match e[i]? with
      | some (.own (.lst l)) => if l.length < lim then .nx (e.set i (.own (.lst (l ++ [d])))) h' else .no
      | _ => .no) := q
    split at q'
    · rename_i l hl
      split at q'
      · exact ⟨l, hl, by assumption, q'⟩
      · exact q'.elim
    · exact q'.elim
  obtain ⟨l, hel, hlim, q⟩ := hi
  refine ⟨ι, e, h, r.rl, .own i, h, ?_, fun ι1 H1 v1 g1 rl1 r1 => ?_⟩
  · show (match e[i]? with
      | some (.val d) => R.ok (.d d) h
      | some (.own _) => R.ok (Od.own i) h
      | _ => R.no) = R.ok (.own i) h
    rw [hel]
  · have r1' : σ[i]? = some (some v1) := r1
    obtain ⟨ad, o1, o2, o3, o4⟩ := rl1.own i _ hel
    rw [o1] at r1'
    cases r1'
    cases o4 with
    | lst hh hr =>
      refine ⟨.inl ⟨rfl, _, SqL.of hh⟩, ι1, e, h, rl1, d, h', eq, fun ι2 H2 v2 g2 rl2 r2 => ?_⟩
      obtain ⟨ad', p1, p2, p3, p4⟩ := rl2.own i _ hel
      rw [o1] at p1
      cases p1
      cases p4 with
      | lst hh2 hr2 =>
        refine ⟨ad, _, v2, rfl, rfl, hh2, by rw [hr2.length]; exact Nat.lt_of_lt_of_le hlim (by decide), ?_⟩
        have r' := (r.step g1 rl1).step g2 rl2
        have hm : Mu S.M0 ι2 e σ ad := .inr (.inr ⟨i, ⟨_, hel⟩, o1⟩)
        exact q ι2 σ _ (r'.ownSet hel o1 (.lst upd_same ((hr2.snoc r2).go (Go.write hm))))
theorem RepFs.put {C : RC} {ι : List Addr} {M : Addr → Prop} {H : Hp} {f : Str} {v : V} {d : D} (r : Rep C ι M H v d) : ∀ {fs : List (Str × D)} {vfs : List (Str × V)}, RepFs C ι M H vfs fs → RepFs C ι M H (putF f v vfs) (fput f d fs)
  | _, _, .nil => .cons r .nil
  | (y, d0) :: fs, _, .cons (v := v0) (vs := vs) r0 rs => by
    unfold putF fput
    by_cases e : y = f
    · rw [if_pos e, if_pos e]; exact .cons r rs
    · rw [if_neg e, if_neg e]; exact .cons r0 (RepFs.put r rs)
theorem RepFs.length {C : RC} {ι : List Addr} {M : Addr → Prop} {H : Hp} : ∀ {fs : List (Str × D)} {vfs : List (Str × V)}, RepFs C ι M H vfs fs → vfs.length = fs.length
  | _, _, .nil => rfl
  | _, _, .cons _ rs => congrArg (· + 1) rs.length
/-- a shared object is changed -/
theorem RS.refSet {ι : List Addr} {e : Ev} {h : MH} {σ : L2.St} {H : Hp} {n : Nat} {ad : Addr} {d' : D} {o : HO} (r : RS S B ι e h σ H) (q : ι[n]? = some ad) (c : ContAt S.C ι (Mu S.M0 ι e σ) (upd H ad o) ad d') : RS S B ι e (h.set n d') σ (upd H ad o) := by
  have rl := r.rl
  have hin : ad ∈ ι := List.mem_of_getElem? q
  have hm : Mu S.M0 ι e σ ad := .inr (.inl hin)
  have g : Go ι (Mu S.M0 ι e σ) H ι (Mu S.M0 ι e σ) (upd H ad o) := Go.write hm
  refine ⟨⟨rl.len, fun k d2 z => ?_, fun k d2 z => ?_, rl.dist, by rw [List.length_set]; exact rl.hl, rl.hd, fun k d2 z => ?_, fun b u z w => ?_, rl.fresh, rl.pre, fun b m => ?_⟩, r.go.trans g, r.m0⟩
  · obtain ⟨v, h1, h2⟩ := rl.val k d2 z
    exact ⟨v, h1, h2.go g⟩
  · obtain ⟨b, h1, h2, h3, h4⟩ := rl.own k d2 z
    have hb : b ≠ ad := fun y => h3 (y ▸ hin)
    exact ⟨b, h1, h2, h3, h4.go g fun u hu => by rw [upd_ne hb]; exact hu⟩
  · rcases set_some z with ⟨rfl, w, _⟩ | ⟨hk, z⟩
    · cases w; exact ⟨ad, q, c⟩
    · obtain ⟨b, h1, h2⟩ := rl.hp k d2 z
      have hb : b ≠ ad := fun y => by
        subst y
        have hlt : k < ι.length := by
          by_cases w : k < ι.length
          · exact w
          · rw [List.getElem?_eq_none (by omega)] at h1; cases h1
        exact hk ((List.getElem?_inj hlt rl.hd).mp (h1.trans q.symm))
      exact ⟨b, h1, h2.go g fun u hu => by rw [upd_ne hb]; exact hu⟩
  · have hb : b ≠ ad := fun y => by
      subst y
      rcases rl.fresh b hin with v | v
      · exact w v
      · rw [z] at v; cases v
    rw [upd_ne hb]; exact rl.kept b u z w
  · obtain ⟨u, hu⟩ := rl.mz b m
    by_cases hb : b = ad
    · subst hb; exact ⟨_, upd_same⟩
    · exact ⟨u, by rw [upd_ne hb]; exact hu⟩
theorem s_satt {f : Str} {o v : M} {eo ev : Expr} (G : Gs tb Φ x N j S X) (ho : PE X eo (tE tb Φ S o)) (hv : PE X ev (tE tb Φ S v)) (hc : isComp ev = false) : PS X (.Assign [.Attribute eo f p2] ev pos) (tS tb Φ S (.satt o f v)) := by
  have hca : S.C.ca = x.ca := by rw [G.C]
  have hK : S.C.K = X.K := by rw [G.C]
  refine PS.imp (ps_fld ho hv (comp_sw hc)) fun D σ H ⟨B, ι, e, h, r, q⟩ => ?_
  obtain ⟨dy, h1, e1, q⟩ := st_ok q
  obtain ⟨dr, h2, e2, q⟩ := st_ok q
  refine ⟨ι, e, h, r.rl, dy, h1, e1, fun ι1 H1 v1 g1 rl1 r1 => ⟨ι1, e, h1, rl1, dr, h2, e2, fun ι2 H2 v2 g2 rl2 r2 => ?_⟩⟩
  cases dr <;> first | (exact q.elim) | skip
  rename_i n
  have q' : OutS S B D (match h2[n]? with
    | some (.ins c fs) => if (decide (fs.length < 900) && tb.fld c f) = true then .nx e (h2.set n (.ins c (fput f dy fs))) else .no
    | _ => .no) := q
  split at q'
  · rename_i c fs hn
    split at q'
    · rename_i hcond
      obtain ⟨c1, c2⟩ := and2 hcond
      cases r2 with
      | ref hr =>
        obtain ⟨ad, a1, a2⟩ := rl2.hp n _ hn
        rw [hr] at a1
        cases a1
        cases a2 with
        | ins b1 b2 =>
          refine ⟨_, _, _, _, rfl, b1, ?_, ?_, ?_, ?_⟩
          · rw [hca, ← hK]; exact (G.tx.cls c).cl
          · rw [hca, ← hK]; exact G.tx.fld c f c2
          · have := of_decide_eq_true c1
            rw [b2.length]; omega
          · have r' := (r.step g1 rl1).step g2 rl2
            exact q' ι2 σ _ (r'.refSet hr (.ins upd_same ((RepFs.put (r1.go g2) b2).go (Go.write (.inr (.inl (List.mem_of_getElem? hr)))))))
    · exact q'.elim
  · exact q'.elim
/-- name = [..] on one line -/
theorem setLc_gen (np : ∀ f ds h d h', Φ f ds h = R.ok d h' → ds.length = (x.fps f).length) {i : Nat} {ws : List Nat} {elt : M} {pt : Pat} {it : It} {cs : Ts} {gs : List Comprehension} {scope : Scope} {ee : Expr} {lp : Pos} (G : Gs tb Φ x N j S X) (h1 : N[i]? = some y) (hsw : swB X.env.scope y py (.ListComp ee gs scope lp) = true)
    (h : chk x N X.env.scope (.lc ws elt pt it cs) (.ListComp ee gs scope lp) = true) : PS X (.Assign [.Name y py] (.ListComp ee gs scope lp) pos) (tAsg (tF tb Φ S (.lc ws elt pt it cs)) (gName i)) := by
  obtain ⟨ee', tg, iter, ifs, scope', pos', e0, k1, k2, k3, k4, k5, k6⟩ := i_lc h
  cases e0
  obtain ⟨hy, sw⟩ := lc_sw2 (l := pos.line) G.kind hsw
  have hK : S.C.K = X.K := by rw [G.C]
  refine PS.imp (ps_setLc (own := ownL N ws) (g := tG tb S.C pt) (tt := xC tb Φ S.C cs) (te := xE tb Φ S.C elt) G.calm (by rw [G.nm]; exact G.nd) (by rw [G.nm]; exact h1) hy sw (pi_ok np it X S tg iter _ G.toGd rfl k4) (blkOk_by (by rw [G.nm]; exact k1)) (fun s H C cl fp => ?_) (fun s H C cl fp => ?_) (fun s H C cl fp => ?_) (plain_fold k3 X.env)) fun D σ H q => ?_
  · exact g_pat hK G.calm (show X.N.Nodup by rw [G.nm]; exact G.nd) (fun y => blk_loc y) (show chkP X.N scope pt tg = true by rw [G.nm]; exact k2)
  · exact PTs.ex fun S' hS => pts_ok np cs _ S' ifs _ ((G.toGd.sc hS).blk s H scope _ fp) rfl k5
  · exact PE.ex fun S' hS => (pe_ok np elt _ S' ee _ ((G.toGd.sc hS).blk s H scope _ fp) rfl k6).1
  · rw [ownL_snd]
    exact lc_read q
/-- name = {k: v ..} on one line -/
theorem ps_setDc {i : Nat} {kx vx tg iter : Expr} {ifs : List Expr} {scope : Scope} {own : List (Str × Nat)} {lp : Pos} {wi : TI} {g : TG} {tt : TT} {tk tv : TE} (hc : X.calm = true) (hN : X.N.Nodup) (hy : X.N[i]? = some y) (hyl : X.env.scope.names.lookup y = some .local)
    (hsw : swapsWith (.DictComp kx vx [⟨tg, iter, ifs, 0⟩] scope lp) (some (.Name y py)) pos.line X.env = pure true) (hi : PI X tg iter wi) (ok : BlkOk X.N X.env.scope scope own)
    (hg : ∀ (s : Shared) (H : Hp) (C : Addr) (cl : List (Str × Addr)) (fp : List Addr), PG (X.blk s H scope (compEnvC scope cl C X.env) fp) tg g) (ht : ∀ (s : Shared) (H : Hp) (C : Addr) (cl : List (Str × Addr)) (fp : List Addr), PTs (X.blk s H scope (compEnvC scope cl C X.env) fp) ifs tt)
    (hk : ∀ (s : Shared) (H : Hp) (C : Addr) (cl : List (Str × Addr)) (fp : List Addr), PE (X.blk s H scope (compEnvC scope cl C X.env) fp) kx tk) (hv : ∀ (s : Shared) (H : Hp) (C : Addr) (cl : List (Str × Addr)) (fp : List Addr), PE (X.blk s H scope (compEnvC scope cl C X.env) fp) vx tv) (hs : ∀ x, foldedSetIterable iter X.env x = pure x) :
    PS X (.Assign [.Name y py] (.DictComp kx vx [⟨tg, iter, ifs, 0⟩] scope lp) pos) (tAsg (tDc wi g tt tk tv (own.map (·.2))) (gName i)) := by
  refine ⟨fun pins s σ H D I h => ?_⟩
  rw [exec_Assign_Name_used _ _ _ _ hsw]
  refine wpAny_bind (wpAny_standAt (wpAny_bind ?_))
  have h : tDc wi g tt tk tv (own.map (·.2)) σ H (fun v H1 => gName i v σ H1 D.nx) := h
  refine wpAny_bind (thn (dc_core (use := some (assign (.Name y py) X.env)) (Qf := fun _ s' => SP X pins D .next s') hc hN I hi ok hg ht hk hv hs h fun L C s' m H' I' q hn f => ?_) fun _ s' hq => wpAny_pure (wpAny_pure hq))
  obtain ⟨f0, f1, f2, f3, f4, f5⟩ := f
  refine (show wpAny _ _ (assign (.Name y py) X.env (.ref L)) _ _ _ from wpAny_assign_Name (store_ok2 (v := V.ref L) I' hN hy (.inl hyl) rfl (fun s2 I2 ⟨ad, sb, ha⟩ => ?_) (.inr hyl)))
  have haC : C ≠ ad := ha.elim (fun z => by rw [z]; exact f1) fun z w => f4 y ad z w.symm
  exact ⟨m, hn.sameBut sb haC, fun h3 sb3 => ⟨_, H', I2.turned (t' := s2.toks) (fun b o hb e => (sb3.2 b hb).trans e) f0 f1 f3 f4 f5, q⟩⟩
theorem dc_sw2 {ke ve : Expr} {gs : List Comprehension} {s : Scope} {q : Pos} {l : Nat} {env : Env} (hk : env.scope.kind = .function) (h : swB env.scope y py (.DictComp ke ve gs s q) = true) : env.scope.names.lookup y = some .local ∧ swapsWith (.DictComp ke ve gs s q) (some (.Name y py)) l env = pure true := by
  obtain ⟨h1, h2, h3⟩ := and3 h
  have hy : env.scope.names.lookup y = some .local := by
    unfold locL at h1
    split at h1
    · assumption
    · cases h1
  refine ⟨hy, ?_⟩
  have ky : env.kindOf y = some .local := hy
  have hb : env.blockKind = .function := by unfold Env.blockKind; rw [hk]; rfl
  have ha := (Bool.not_eq_true' _).mp h3
  unfold swapsWith
  simp only [hb, ky, ha, Expr.pos, h2]
  rfl
theorem setDc_gen (np : ∀ f ds h d h', Φ f ds h = R.ok d h' → ds.length = (x.fps f).length) {i : Nat} {ws : List Nat} {k v : M} {pt : Pat} {it : It} {cs : Ts} {gs : List Comprehension} {scope : Scope} {ke ve : Expr} {lp : Pos} (G : Gs tb Φ x N j S X) (h1 : N[i]? = some y) (hsw : swB X.env.scope y py (.DictComp ke ve gs scope lp) = true)
    (h : chk x N X.env.scope (.dc ws k v pt it cs) (.DictComp ke ve gs scope lp) = true) : PS X (.Assign [.Name y py] (.DictComp ke ve gs scope lp) pos) (tAsg (tF tb Φ S (.dc ws k v pt it cs)) (gName i)) := by
  obtain ⟨ek, ev', tg, iter, ifs, scope', pos', e0, k1, k2, k3, k4, k5, k6, k7⟩ := i_dc h
  cases e0
  obtain ⟨hy, sw⟩ := dc_sw2 (l := pos.line) G.kind hsw
  have hK : S.C.K = X.K := by rw [G.C]
  refine PS.imp (ps_setDc (own := ownL N ws) (g := tG tb S.C pt) (tt := xC tb Φ S.C cs) (tk := xE tb Φ S.C k) (tv := xE tb Φ S.C v) G.calm (by rw [G.nm]; exact G.nd) (by rw [G.nm]; exact h1) hy sw (pi_ok np it X S tg iter _ G.toGd rfl k4) (blkOk_by (by rw [G.nm]; exact k1)) (fun s H C cl fp => ?_) (fun s H C cl fp => ?_) (fun s H C cl fp => ?_) (fun s H C cl fp => ?_) (plain_fold k3 X.env)) fun D σ H q => ?_
  · exact g_pat hK G.calm (show X.N.Nodup by rw [G.nm]; exact G.nd) (fun y => blk_loc y) (show chkP X.N scope pt tg = true by rw [G.nm]; exact k2)
  · exact PTs.ex fun S' hS => pts_ok np cs _ S' ifs _ ((G.toGd.sc hS).blk s H scope _ fp) rfl k5
  · exact PE.ex fun S' hS => (pe_ok np k _ S' _ _ ((G.toGd.sc hS).blk s H scope _ fp) rfl k6).1
  · exact PE.ex fun S' hS => (pe_ok np v _ S' _ _ ((G.toGd.sc hS).blk s H scope _ fp) rfl k7).1
  · rw [ownL_snd]
    exact dc_read q
/-- .. in general: a new list or dict that is named on its line -/
theorem setSw_gen (np : ∀ f ds h d h', Φ f ds h = R.ok d h' → ds.length = (x.fps f).length) {i : Nat} (G : Gs tb Φ x N j S X) (h1 : N[i]? = some y) (hl : isLc e = true) (hsw : swB X.env.scope y py e = true) (h : chk x N X.env.scope a e = true) : PS X (.Assign [.Name y py] e pos) (tAsg (tF tb Φ S a) (gName i)) := by
  cases e <;> first | (cases hl; done) | skip
  · cases a <;> first | (cases h; done) | (exact setLc_gen np G h1 hsw h) | (rename_i g; cases g <;> cases h)
  · cases a <;> first | (cases h; done) | (exact setDc_gen np G h1 hsw h) | (rename_i g; cases g <;> cases h)
end
end MP

set_option maxRecDepth 100000
set_option maxHeartbeats 1000000
/-! MP22c: items stored, new objects as fields, lists made longer and shorter. -/
namespace MP
open PySem PySem.Spec PyProof.Rows L2
section
variable {tb : Tb} {Φ : Nat → List D → MH → R D} {x : Tx} {N : List Str} {j : Nat} {S : SC} {B : Bp} {X : Cx} {e ea eb ec eo ek ev' : Expr} {a b c m o k v : M} {pos p p2 py p3 ap : Pos} {y z : Str}
theorem sw_sub {e o i : Expr} {q : Pos} {l : Nat} {env : Env} : swapsWith e (some (.Subscript o i q)) l env = pure false := by cases e <;> rfl
theorem sw_att {e o : Expr} {f : Str} {q : Pos} {l : Nat} {env : Env} : swapsWith e (some (.Attribute o f q)) l env = pure false := by cases e <;> rfl
theorem ps_putX {o i value : Expr} {to ti tv : TE} {t : TSet} {pos' : Pos} (ho : PE X o to) (hi : PE X i ti) (hv : PE X value tv) (hset : PSet X t) : PS X (.Assign [.Subscript o i pos'] value pos) (fun D σ H => tv σ H fun v H1 => to σ H1 fun ov H2 => ti σ H2 fun iv H3 => t ov iv v H3 fun H4 => D.nx σ H4) :=
  ⟨fun pins s σ H D I h => wpAny_Assign_Subscript (thn (hv.run pins s σ H _ I h) fun r s1 ⟨vv, H1, I1, rv, q1⟩ => thn (ho.run pins s1 σ H1 _ I1 q1) fun u s2 ⟨vo, H2, I2, ro, q2⟩ => thn (hi.run pins s2 σ H2 _ I2 q2) fun w s3 ⟨vi, H3, I3, ri, q3⟩ =>
    thn (hset pins s3 σ H3 vo vi vv u w r _ I3 ro ri rv q3) fun _ s4 ⟨H4, I4, q4⟩ => ⟨σ, H4, I4, q4⟩) sw_sub⟩
theorem s_put {i : Nat} (G : Gs tb Φ x N j S X) (h1 : N[i]? = some y) (h2 : visB X.env.scope y = true) (h3 : dbgOk y = true) (hk : PE X ek (tE tb Φ S k)) (hv : PE X e (tE tb Φ S v)) : PS X (.Assign [.Subscript (.Name y py) ek p2] e pos) (tS tb Φ S (.put i k v)) := by
  have bo : PSet X (rPut S.C) := by rw [G.C]; exact set_put G.hu
  refine PS.imp (ps_putX (e_var G.toGd rfl h1 h2 h3) hk hv bo) fun D σ H ⟨B, ι, e, h, r, q⟩ => ?_
  obtain ⟨dy, g1, e1, q⟩ := st_ok q
  obtain ⟨dx, g2, e2, q⟩ := st_ok q
  have q' : OutS S B D (match e[i]? with
    | some (.own d) => O.of ((setD d dx dy).map fun d => e.set i (.own d)) g2
    | _ => .no) := q
  split at q'
  · rename_i d hd
    refine ⟨ι, e, h, r.rl, dy, g1, e1, fun ι1 H1 v1 go1 rl1 r1 => ⟨ι1, e, g1, rl1, .own i, g1, ?_, fun ι2 H2 v2 go2 rl2 r2 => ⟨ι2, e, g1, rl2, dx, g2, e2, fun ι3 H3 v3 go3 rl3 r3 => ?_⟩⟩⟩
    · show (match e[i]? with
        | some (.val d) => R.ok (.d d) g1
        | some (.own _) => R.ok (Od.own i) g1
        | _ => R.no) = R.ok (.own i) g1
      rw [hd]
    · have r2' : σ[i]? = some (some v2) := r2
      obtain ⟨ad, o1, o2, o3, o4⟩ := rl3.own i d hd
      rw [o1] at r2'
      cases r2'
      cases hs : setD d dx dy with
      | none => rw [hs] at q'; exact q'.elim
      | some d' =>
        rw [hs] at q'
        have r' := ((r.step go1 rl1).step go2 rl2).step go3 rl3
        have hm : Mu S.M0 ι3 e σ ad := .inr (.inr ⟨i, ⟨d, hd⟩, o1⟩)
        exact ⟨ι3, _, ad, d, dx, dy, d', rfl, o4, r3, r1.go (go2.trans go3), hs, fun o' c => q' ι3 σ _ (r'.ownSet hd o1 (c _ (Go.write hm)))⟩
  · exact q'.elim
theorem s_putS (G : Gs tb Φ x N j S X) (ho : PE X eo (tE tb Φ S o)) (hk : PE X ek (tE tb Φ S k)) (hv : PE X e (tE tb Φ S v)) : PS X (.Assign [.Subscript eo ek p2] e pos) (tS tb Φ S (.putS o k v)) := by
  have bo : PSet X (rPut S.C) := by rw [G.C]; exact set_put G.hu
  refine PS.imp (ps_putX ho hk hv bo) fun D σ H ⟨B, ι, e, h, r, q⟩ => ?_
  obtain ⟨dy, g1, e1, q⟩ := st_ok q
  obtain ⟨dr, g2, e2, q⟩ := st_ok q
  obtain ⟨dx, g3, e3, q⟩ := st_ok q
  refine ⟨ι, e, h, r.rl, dy, g1, e1, fun ι1 H1 v1 go1 rl1 r1 => ⟨ι1, e, g1, rl1, dr, g2, e2, fun ι2 H2 v2 go2 rl2 r2 => ⟨ι2, e, g2, rl2, dx, g3, e3, fun ι3 H3 v3 go3 rl3 r3 => ?_⟩⟩⟩
  cases dr with
  | ref n =>
    have q' : OutS S B D (match (g3[n]?).bind fun d => setD d dx dy with
      | some d => O.nx e (g3.set n d)
      | none => .no) := q
    cases hs : (g3[n]?).bind fun d => setD d dx dy with
    | none => rw [hs] at q'; exact q'.elim
    | some d' =>
      rw [hs] at q'
      obtain ⟨d, hd, hs⟩ := Option.bind_eq_some_iff.mp hs
      have r2' := Rep.go go3 r2
      cases r2' with
      | @ref ad _ hn =>
        obtain ⟨ad', a1, a2⟩ := rl3.hp n d hd
        rw [hn] at a1
        cases a1
        have r' := ((r.step go1 rl1).step go2 rl2).step go3 rl3
        have hm : Mu S.M0 ι3 e σ ad := .inr (.inl (List.mem_of_getElem? hn))
        exact ⟨ι3, _, ad, d, dx, dy, d', rfl, a2, r3, r1.go (go2.trans go3), hs, fun o' c => q' ι3 σ _ (r'.refSet hn (c _ (Go.write hm)))⟩
  | _ => exact q.elim
/-! o[k] = v by an own class -/
def rOwnS (X : Cx) (C : RC) (x : Tx) (Φ : Nat → List D → MH → R D) : TSet := fun o i v H Qn => ∃ a Ca dx fs f, o = .ref a ∧ H a = some (.ins Ca dx fs) ∧ Meth X.K Ca "__setitem__" (x.fa f) ∧ PySem.W.noSeq X.K Ca = true ∧
  spF C (x.fps f).length (x.frs f) (Φ f) [o, i, v] H (fun _ H1 => LockQ Qn H1) fun _ _ _ => False
theorem set_own (G : Gd tb Φ x N j S X) : PSet X (rOwnS X S.C x Φ) := by
  have hK : S.C.K = X.K := by rw [G.C]
  intro pins s σ H o i v ov iv u Qn I ro ri rv ⟨ad, Ca, dx, fs, f, ex, ea, m, nsq, q⟩
  subst ex
  cases ro
  obtain ⟨mA, O, _⟩ := ins_get I.hok ea
  obtain ⟨od, J, _⟩ := O.look
  have hbd : Binds X.K (x.fdat f) (x.fps f) [] := by rw [← hK]; exact G.tx.bnd f
  unfold setItem sequenceKey
  refine wpAny_holding (wpAny_bind (wpAny_bind (J.type.here (wpAny_bind ((PySem.W.anyM_none I.kIn nsq).here ?_)))))
  rw [if_pos (show (!false) = true from rfl)]
  refine wpAny_pure (wpAny_bind (PySem.W.special_fn I.kIn J m.at_ (beq_iff_eq.mp m.fn) ?_))
  have hrun := run_fn (us := [.ref ad, iv, u]) (vs := [.ref ad, i, v]) (G.fn f) (G.room.mono (Nat.le_succ j)) hbd .nil pass0 I (.cons rfl (.cons ri (.cons rv .nil))) (by rw [List.append_nil]; exact q)
  refine thn hrun fun w s1 ⟨y, H1, I1, _, l⟩ => ?_
  obtain ⟨H2, I2, q2⟩ := l.run I1
  exact wpAny_pure ⟨H2, I2, q2⟩
end
section
variable {tb : Tb} {Φ : Nat → List D → MH → R D} {x : Tx} {N : List Str} {j : Nat} {S : SC} {B : Bp} {X : Cx} {e ea eb ec eo ek : Expr} {a b c m o k v : M} {pos p p2 py p3 ap : Pos} {y z : Str}
theorem s_putO (G : Gs tb Φ x N j S X) (np : ∀ f ds h d h', Φ f ds h = R.ok d h' → ds.length = (x.fps f).length) (ho : PE X eo (tE tb Φ S o)) (hk : PE X ek (tE tb Φ S k)) (hv : PE X e (tE tb Φ S v)) : PS X (.Assign [.Subscript eo ek p2] e pos) (tS tb Φ S (.putO o k v)) := by
  have hK : S.C.K = X.K := by rw [G.C]
  have hca : S.C.ca = x.ca := by rw [G.C]
  refine PS.imp (ps_putX ho hk hv (set_own G.toGd)) fun D σ H ⟨B, ι, e, h, r, q⟩ => ?_
  obtain ⟨dy, g1, e1, q⟩ := st_ok q
  obtain ⟨dr, g2, e2, q⟩ := st_ok q
  obtain ⟨dx, g3, e3, q⟩ := st_ok q
  refine ⟨ι, e, h, r.rl, dy, g1, e1, fun ι1 H1 v1 go1 rl1 r1 => ⟨ι1, e, g1, rl1, dr, g2, e2, fun ι2 H2 v2 go2 rl2 r2 => ⟨ι2, e, g2, rl2, dx, g3, e3, fun ι3 H3 v3 go3 rl3 r3 => ?_⟩⟩⟩
  cases hvw : view dr g3 with
  | none => rw [hvw] at q; exact q.elim
  | some dv =>
    rw [hvw] at q
    have rv := rl3.view (r2.go go3) hvw
    cases rv <;> first | (exact q.elim) | skip
    rename_i ad cc dx' vfs fs hr hfs
    cases hm : tb.meth cc "__setitem__" with
    | none => simp only [hm] at q; exact q.elim
    | some f =>
      simp only [hm] at q
      obtain ⟨dz, g4, e4, q⟩ := st_ok q
      cases dz <;> first | (exact q.elim) | skip
      have r' := ((r.step go1 rl1).step go2 rl2).step go3 rl3
      refine ⟨ad, _, dx', vfs, f, rfl, hr, ?_, ?_, ?_⟩
      · rw [hca, ← hK]; exact G.tx.mt cc _ f hm
      · rw [hca, ← hK]; exact (G.tx.cls cc).nsq
      · refine sp_of (Q := fun _ H1 => D.nx σ H1) rl3 (.cons (r2.go go3) (.cons r3 (.cons (r1.go (go2.trans go3)) .nil))) (np _ _ _ _ _ e4) e4 fun ι' H' v g rl' _ => q ι' σ H' (r'.step g rl')
theorem s_sattN {i : Nat} {f : Str} (G : Gs tb Φ x N j S X) (h1 : N[i]? = some y) (h2 : visB X.env.scope y = true) (h3 : dbgOk y = true) (hv : PE X e (tF tb Φ S v)) : PS X (.Assign [.Attribute (.Name y py) f p2] e pos) (tS tb Φ S (.sattN i f v)) := by
  have hK : S.C.K = X.K := by rw [G.C]
  have hca : S.C.ca = x.ca := by rw [G.C]
  refine PS.imp (ps_fld (pe_var (show X.N[i]? = some y by rw [G.nm]; exact h1) (visB_of h2) (dbg1 h3) (dbg2 h3)) hv sw_att) fun D σ H ⟨B, ι, e, h, r, q⟩ => ?_
  obtain ⟨d, g1, e1, q⟩ := st_ok q
  refine ⟨ι, e, h, r.rl, d, g1, e1, fun ι1 H1 p hp ni g rl c => ?_⟩
  have r1 := r.share hp ni g rl c
  have q' : OutS S B D (match e[i]? with
    | some (.val (.ref n)) => (match g1[n]? with
      | some (.ins c fs) => if fs.length < 900 && tb.fld c f && freshD d then O.nx e (g1.set n (.ins c (fput f (.ref g1.length) fs)) ++ [d]) else .no
      | _ => .no)
    | _ => .no) := q
  split at q'
  · rename_i n hn
    split at q'
    · rename_i cc fs hi
      split at q'
      · rename_i hcond
        obtain ⟨hc12, _⟩ := and2 hcond
        obtain ⟨hc1, hc2⟩ := and2 hc12
        have hlt : n < g1.length := by
          by_cases w : n < g1.length
          · exact w
          · rw [List.getElem?_eq_none (by omega)] at hi; cases hi
        obtain ⟨vo, s1, s2⟩ := r1.rl.val i _ hn
        cases s2 with
        | @ref ad _ hr =>
          obtain ⟨ad', a1, a2⟩ := r1.rl.hp n _ (by rw [List.getElem?_append_left hlt]; exact hi)
          rw [hr] at a1
          cases a1
          cases a2 with
          | @ins _ dxx vff _ b1 b2 =>
            refine ⟨_, s1, _, _, _, _, rfl, b1, ?_, ?_, ?_, ?_⟩
            · rw [hca, ← hK]; exact (G.tx.cls cc).cl
            · rw [hca, ← hK]; exact G.tx.fld cc f hc2
            · have := of_decide_eq_true hc1
              rw [b2.length]; omega
            · have hp' : (ι1 ++ [p])[g1.length]? = some p := by
                rw [← rl.hl, List.getElem?_append_right (Nat.le_refl _), Nat.sub_self]; rfl
              have rp : Rep S.C (ι1 ++ [p]) (Mu S.M0 (ι1 ++ [p]) e σ) H1 (.ref p) (.ref g1.length) := .ref hp'
              have rr := r1.refSet (d' := .ins cc (fput f (.ref g1.length) fs)) (o := .ins (S.C.ca cc) dxx (putF f (.ref p) vff)) hr (.ins upd_same ((RepFs.put rp b2).go (Go.write (.inr (.inl (List.mem_of_getElem? hr))))))
              have eL : (g1 ++ [d]).set n (.ins cc (fput f (.ref g1.length) fs)) = g1.set n (.ins cc (fput f (.ref g1.length) fs)) ++ [d] := List.set_append_left _ _ hlt
              rw [eL] at rr
              exact q' _ σ _ rr
      · exact q'.elim
    · exact q'.elim
  · exact q'.elim
theorem own_opd {i : Nat} {e : Ev} {h : MH} {d : D} (hel : e[i]? = some (.own d)) : opd (.var i) (ev tb Φ (.var i) e h) e h = R.ok (.own i) h := by
  show (match e[i]? with
    | some (.val d) => R.ok (.d d) h
    | some (.own _) => R.ok (Od.own i) h
    | _ => R.no) = R.ok (.own i) h
  rw [hel]
theorem s_ext {i : Nat} {cp : Pos} (G : Gs tb Φ x N j S X) (h1 : N[i]? = some y) (h2 : visB X.env.scope y = true) (h3 : dbgOk y = true) (hp : plainA e = true) (hl : (ap.endLine == cp.line) = true) (ha : PE X e (tE tb Φ S a)) :
    PS X (.Expr (.Call (.Attribute (.Name y py) "extend" ap) [e] [] cp) pos) (tS tb Φ S (.ext i a)) := by
  have ho := e_var (pos := py) G.toGd rfl h1 h2 h3
  have hf : ((backTo cp (starEach [e] X.env)).all (fun x => !x.1) && (backToKw cp (keywordEach [] X.env)).all (fun x => x.1.isSome)
      && decide ([e].length + ([] : List Keyword).length + (if ([] : List Keyword).isEmpty then 0 else 1) < 30)) = true := by
    rw [plain_star hp]; rfl
  refine PS.imp (ps_expr (pe_bm (T := "list") (id := "list.extend") F.plainAttrs_list F.slot_list_extend F.type_list_extend mt_extend ho (pa_cons ha pa_nil (plain_star hp)) rfl hf hl (plain_star hp) rfl) rfl) fun D σ H ⟨B, ι, e, h, r, q⟩ => ?_
  have q' : OutS S B D (match e[i]? with
    | some (.own (.lst _)) => (ev tb Φ a e h).st e fun y h => (match e[i]?, y with
      | some (.own (.lst l)), .lst m => if l.length + m.length ≤ lim then .nx (e.set i (.own (.lst (l ++ m)))) h else .no
      | _, _ => .no)
    | _ => .no) := q
  split at q'
  · rename_i l hel
    obtain ⟨d, h', eq, q2⟩ := st_ok q'
    rw [hel] at q2
    cases d with
    | lst m2 =>
      obtain ⟨hlim, q2⟩ : ∃ _ : l.length + m2.length ≤ lim, OutS S B D (.nx (e.set i (.own (.lst (l ++ m2)))) h') := by
        have q3 : OutS S B D (if l.length + m2.length ≤ lim then .nx (e.set i (.own (.lst (l ++ m2)))) h' else .no) := q2
        split at q3
        · exact ⟨by assumption, q3⟩
        · exact q3.elim
      refine ⟨ι, e, h, r.rl, .own i, h, own_opd hel, fun ι1 H1 v1 g1 rl1 r1 => ?_⟩
      have r1' : σ[i]? = some (some v1) := r1
      obtain ⟨ad, o1, o2, o3, o4⟩ := rl1.own i _ hel
      rw [o1] at r1'
      cases r1'
      cases o4 with
      | lst hh hr =>
        refine ⟨.inl ⟨rfl, _, SqL.of hh⟩, ι1, e, h, rl1, _, h', eq, fun ι2 H2 v2 g2 rl2 r2 => ?_⟩
        obtain ⟨ad', p1, p2, p3, p4⟩ := rl2.own i _ hel
        rw [o1] at p1
        cases p1
        cases p4 with
        | lst hh2 hr2 =>
          cases r2 with
          | @lst b zs ds mb hb rz =>
            refine ⟨ad, b, _, zs, rfl, rfl, hh2, hb, by rw [hr2.length, rz.length]; exact lim_le hlim, ?_⟩
            have r' := (r.step g1 rl1).step g2 rl2
            have hm : Mu S.M0 ι2 e σ ad := .inr (.inr ⟨i, ⟨_, hel⟩, o1⟩)
            exact q2 ι2 σ _ (r'.ownSet hel o1 (.lst upd_same ((hr2.append rz).go (Go.write hm))))
    | _ => exact q2.elim
  · exact q'.elim
theorem Reps.dropLast {C : RC} {ι : List Addr} {M : Addr → Prop} {H : Hp} {ds : List D} {vs : List V} (r : Reps C ι M H vs ds) {d : D} (e : ds.getLast? = some d) : ∃ v, vs[vs.length - 1]? = some v ∧ Rep C ι M H v d ∧ Reps C ι M H vs.dropLast ds.dropLast := by
  have e' : ds[ds.length - 1]? = some d := by rw [← List.getLast?_eq_getElem?]; exact e
  obtain ⟨v, h1, h2⟩ := r.get e'
  refine ⟨v, by rw [r.length]; exact h1, h2, ?_⟩
  have dl : ∀ {ds : List D} {vs : List V}, Reps C ι M H vs ds → Reps C ι M H vs.dropLast ds.dropLast := by
    intro ds
    induction ds with
    | nil => intro vs r; cases r; exact .nil
    | cons d1 t ih =>
      intro vs r
      cases r with
      | cons a b =>
        cases b with
        | nil => exact .nil
        | cons c f => exact .cons a (ih (.cons c f))
  exact dl r
theorem s_pop {i k : Nat} {cp : Pos} (G : Gs tb Φ x N j S X) (h1 : N[i]? = some y) (h2 : visB X.env.scope y = true) (h3 : dbgOk y = true) (hl : (ap.endLine == cp.line) = true) (h4 : N[k]? = some z) (h5 : locB X.env.scope z = true) :
    PS X (.Assign [.Name z p2] (.Call (.Attribute (.Name y py) "pop" ap) [] [] cp) pos) (tS tb Φ S (.pop k i)) := by
  have ho := e_var (pos := py) G.toGd rfl h1 h2 h3
  refine PS.imp (ps_set (by rw [G.nm]; exact G.nd) (by rw [G.nm]; exact h4) (locB_of h5) (pe_bm0 (T := "list") (id := "list.pop") F.plainAttrs_list F.slot_list_pop F.type_list_pop mt_pop ho rfl hl) rfl (.inl (G.fnT z))) fun D σ H ⟨B, ι, e, h, r, q⟩ => ?_
  have q' : OutS S B D (match e[i]? with
    | some (.own (.lst l)) => (match l.getLast? with
      | some d => if i = k then .no else .nx ((e.set i (.own (.lst l.dropLast))).set k (.val d)) h
      | none => .no)
    | _ => .no) := q
  split at q'
  · rename_i l hel
    split at q'
    · rename_i d hd
      split at q'
      · exact q'.elim
      · refine ⟨ι, e, h, r.rl, .own i, h, own_opd hel, fun ι1 H1 v1 g1 rl1 r1 => ?_⟩
        have r1' : σ[i]? = some (some v1) := r1
        obtain ⟨ad, o1, o2, o3, o4⟩ := rl1.own i _ hel
        rw [o1] at r1'
        cases r1'
        cases o4 with
        | lst hh hr =>
          obtain ⟨v, w1, w2, w3⟩ := hr.dropLast hd
          have hm : Mu S.M0 ι1 e σ ad := .inr (.inr ⟨i, ⟨_, hel⟩, o1⟩)
          have gw : ∀ {o : HO}, Go ι1 (Mu S.M0 ι1 e σ) H1 ι1 (Mu S.M0 ι1 e σ) (upd H1 ad o) := Go.write hm
          refine ⟨.inl ⟨rfl, _, SqL.of hh⟩, ad, _, v, rfl, rfl, hh, w1, ?_⟩
          have r2 := (r.step g1 rl1).ownSet hel o1 (.lst upd_same (w3.go gw))
          have sub : ∀ b, Mu S.M0 ι1 (e.set i (.own (.lst l.dropLast))) σ b → Mu S.M0 ι1 e σ b := mu_own fun n b ⟨⟨d2, q1⟩, q2⟩ => by
            rcases set_some q1 with ⟨rfl, _, _⟩ | ⟨_, q1⟩
            · exact ⟨⟨_, hel⟩, q2⟩
            · exact ⟨⟨d2, q1⟩, q2⟩
          exact q' ι1 _ _ (r2.setVal ((w2.go gw).go (.less sub)))
    · exact q'.elim
  · exact q'.elim
theorem s_clr {i : Nat} {cp : Pos} (G : Gs tb Φ x N j S X) (h1 : N[i]? = some y) (h2 : visB X.env.scope y = true) (h3 : dbgOk y = true) (hl : (ap.endLine == cp.line) = true) :
    PS X (.Expr (.Call (.Attribute (.Name y py) "clear" ap) [] [] cp) pos) (tS tb Φ S (.clr i)) := by
  have ho := e_var (pos := py) G.toGd rfl h1 h2 h3
  refine PS.imp (ps_expr (pe_bm0 (T := "list") (id := "list.clear") F.plainAttrs_list F.slot_list_clear F.type_list_clear mt_clear ho rfl hl) rfl) fun D σ H ⟨B, ι, e, h, r, q⟩ => ?_
  have q' : OutS S B D (match e[i]? with
    | some (.own (.lst _)) => .nx (e.set i (.own (.lst []))) h
    | _ => .no) := q
  split at q'
  · rename_i l hel
    refine ⟨ι, e, h, r.rl, .own i, h, own_opd hel, fun ι1 H1 v1 g1 rl1 r1 => ?_⟩
    have r1' : σ[i]? = some (some v1) := r1
    obtain ⟨ad, o1, o2, o3, o4⟩ := rl1.own i _ hel
    rw [o1] at r1'
    cases r1'
    cases o4 with
    | lst hh hr => exact ⟨.inl ⟨rfl, _, SqL.of hh⟩, ad, _, rfl, rfl, hh, q' ι1 σ _ ((r.step g1 rl1).ownSet hel o1 (.lst upd_same .nil))⟩
  · exact q'.elim
end
end MP

set_option maxRecDepth 100000
set_option maxHeartbeats 1000000
/-! MP23: every checked body; every def keeps its promise. -/
namespace MP
open PySem PySem.Spec PyProof.Rows L2

section
variable {tb : Tb} {Φ : Nat → List D → MH → R D} {x : Tx} {N : List Str} {j : Nat}
theorem RS.frz {S : SC} {B : Bp} {ι : List Addr} {e : Ev} {h : MH} {σ : L2.St} {H : Hp} {D : Ends} {i : Nat} {l : Ss} (r : RS S B ι e h σ H) (q : OutS S B D (execs tb Φ (.cons (.frz i) l) e h)) : LockQ (fun H1 => tSs tb Φ S l D σ H1) H := by
  have q' : OutS S B D (match (match e[i]? with
    | some (.own d) => if freshD d then O.nx (e.set i (.val d)) h else .no
    | some (.val d) => .nx (e.set i (.val d)) h
    | _ => .no) with
    | .nx e h => execs tb Φ l e h
    | o => o) := q
  cases hz : e[i]? with
  | none => rw [hz] at q'; exact q'.elim
  | some s =>
    rw [hz] at q'
    cases s with
    | no => exact q'.elim
    | val d =>
      have he : e.set i (.val d) = e := by
        refine List.ext_getElem? fun k => ?_
        rw [List.getElem?_set]
        split
        · rename_i z; subst z
          split
          · exact hz.symm
          · rename_i w; rw [List.getElem?_eq_none (by omega)]
        · rfl
      have q2 : OutS S B D (execs tb Φ l (e.set i (.val d)) h) := q'
      rw [he] at q2
      exact .done ⟨B, ι, e, h, r, q2⟩
    | own d =>
      by_cases hf : freshD d = true
      · have q2 : OutS S B D (match (if freshD d then O.nx (e.set i (.val d)) h else .no) with
          | .nx e h => execs tb Φ l e h
          | o => o) := q'
        rw [if_pos hf] at q2
        exact r.freeze hz fun H2 r2 => ⟨B, ι, _, h, r2, q2⟩
      · have q2 : OutS S B D (match (if freshD d then O.nx (e.set i (.val d)) h else .no) with
          | .nx e h => execs tb Φ l e h
          | o => o) := q'
        rw [if_neg hf] at q2
        exact q2.elim
theorem seq_core {S : SC} {D : Ends} {s : MP.S} {l : Ss} {σ : L2.St} {H : Hp} (q : tSs tb Φ S (.cons s l) D σ H) : tSeq (tS tb Φ S s) (tSs tb Φ S l) D σ H := by
  obtain ⟨B, ι, e, h, r, q⟩ := q
  refine ⟨B, ι, e, h, r, ?_⟩
  have q' : OutS S B D (match exec tb Φ s e h with
    | .nx e h => execs tb Φ l e h
    | o => o) := q
  cases hx : exec tb Φ s e h with
  | nx e2 h2 => rw [hx] at q'; exact fun ι σ H r => ⟨B, ι, e2, h2, r, q'⟩
  | ct e2 h2 => rw [hx] at q'; exact q'
  | bk e2 h2 => rw [hx] at q'; exact q'
  | rt d h2 => rw [hx] at q'; exact q'
  | rtF d h2 => rw [hx] at q'; exact q'
  | ex c fs e2 h2 => rw [hx] at q'; exact q'
  | no => rw [hx] at q'; exact q'
theorem b_cons {S : SC} {X : Cx} {sc : Scope} {s : MP.S} {l : Ss} {sts : List Stmt} (h1 : ∀ st, chkS x N sc s st = true → PS X st (tS tb Φ S s)) (h2 : ∀ sts, chkB x N sc l sts = true → PSs X sts (tSs tb Φ S l)) (h : chkB x N sc (.cons s l) sts = true) : PSs X sts (tSs tb Φ S (.cons s l)) := by
  have gen : (∀ st r, sts = st :: r → (chkS x N sc s st && chkB x N sc l r) = true) → sts ≠ [] → PSs X sts (tSs tb Φ S (.cons s l)) := fun g hne => by
    cases sts with
    | nil => exact absurd rfl hne
    | cons st r =>
      obtain ⟨a, b⟩ := and2 (g st r rfl)
      exact PSs.imp (pss_cons (h1 st a) (h2 r b)) fun D σ H q => seq_core q
  cases s <;> first
    | (cases sts with
       | nil => cases h
       | cons st r => exact gen (fun st' r' e => by cases e; exact h) (by simp))
    | exact PSs.imp (PSs.lock (h2 sts h)) fun D σ H ⟨B, ι, e, hh, r, q⟩ => r.frz q
    | exact PSs.imp (h2 sts h) fun D σ H ⟨B, ι, e, hh, r, q⟩ => ⟨B, ι, _, hh, r.wip, q⟩

variable (np : ∀ f ds h d h', Φ f ds h = R.ok d h' → ds.length = (x.fps f).length)
include np
mutual
theorem ps_ok : ∀ (s : MP.S) (X : Cx) (S : SC) (st : Stmt), Gs tb Φ x N j S X → chkS x N X.env.scope s st = true → PS X st (tS tb Φ S s)
  | .expr a, X, S, st, G, h => by
    cases st <;> first | (cases h; done) | skip
    obtain ⟨h1, h2⟩ := and2 h
    exact s_expr (pe_ok np a X S _ _ G.toGd rfl h2).1 ((Bool.not_eq_true' _).mp h1)
  | .set i a, X, S, st, G, h => by
    cases st <;> first | (cases h; done) | skip
    rename_i ts e p
    rcases ts with _ | ⟨t, _ | ⟨t2, r⟩⟩ <;> first | (cases h; done) | (cases t <;> cases h; done) | skip
    cases t <;> first | (cases h; done) | skip
    rename_i y py
    obtain ⟨h1, h2, h3⟩ := and3 h
    have h1 := of_decide_eq_true h1
    rw [Bool.or_eq_true] at h3
    rcases h3 with h3 | h3
    · obtain ⟨h4, h5⟩ := and2 h3
      exact s_set G h1 h2 (pe_ok np a X S _ _ G.toGd rfl h5).1 (comp_sw ((Bool.not_eq_true' _).mp h4))
    · obtain ⟨h4, h5, h6⟩ := and3 h3
      rw [Bool.or_eq_true] at h5
      rcases h5 with h5 | h5
      · refine PS.imp (PS.lock (setSw_gen np G h1 h4 h5 h6)) fun D σ H q => setFv_core q
      · exact s_set G h1 h2 (pe_ok np a X S _ _ G.toGd rfl h6).1 (lc_sw h4 G.kind ((Bool.not_eq_true' _).mp h5))
  | .setN i a, X, S, st, G, h => by
    cases st <;> first | (cases h; done) | skip
    rename_i ts e p
    rcases ts with _ | ⟨t, _ | ⟨t2, r⟩⟩ <;> first | (cases h; done) | (cases t <;> cases h; done) | skip
    cases t <;> first | (cases h; done) | skip
    rename_i y py
    obtain ⟨h0, h3⟩ := and2 h
    obtain ⟨h1, h2, hF⟩ := and3 h0
    have h1 := of_decide_eq_true h1
    rw [Bool.or_eq_true] at h3
    rcases h3 with h3 | h3
    · obtain ⟨h4, h5⟩ := and2 h3
      exact s_setF G h1 h2 ((pe_ok np a X S _ _ G.toGd rfl h5).2.2 hF) (comp_sw ((Bool.not_eq_true' _).mp h4))
    · obtain ⟨h4, h5, h6⟩ := and3 h3
      rw [Bool.or_eq_true] at h5
      rcases h5 with h5 | h5
      · exact PS.imp (setSw_gen np G h1 h4 h5 h6) fun D σ H q => setF_core q
      · exact s_setF G h1 h2 ((pe_ok np a X S _ _ G.toGd rfl h6).2.2 hF) (lc_sw h4 G.kind ((Bool.not_eq_true' _).mp h5))
  | .unp is a, X, S, st, G, h => by
    cases st <;> first | (cases h; done) | skip
    rename_i ts e p
    rcases ts with _ | ⟨t, _ | ⟨t2, r⟩⟩ <;> first | (cases h; done) | (cases t <;> cases h; done) | skip
    cases t <;> first | (cases h; done) | skip
    obtain ⟨h0, h5⟩ := and2 h
    obtain ⟨h0, h4⟩ := and2 h0
    obtain ⟨h1, h2, h3⟩ := and3 h0
    exact s_unp G h1 (of_decide_eq_true h2) (pe_ok np a X S _ _ G.toGd rfl h5).1 ((Bool.not_eq_true' _).mp h3) ((Bool.not_eq_true' _).mp h4)
  | .par i k a b, X, S, st, G, h => by cases st <;> cases h
  | .put i k v, X, S, st, G, h => by
    cases st <;> first | (cases h; done) | skip
    rename_i ts e p
    rcases ts with _ | ⟨t, _ | ⟨t2, r⟩⟩ <;> first | (cases h; done) | (cases t <;> first | (cases h; done) | (rename_i o _ _; cases o <;> cases h; done)) | skip
    cases t <;> first | (cases h; done) | skip
    rename_i eo ek p2
    cases eo <;> first | (cases h; done) | skip
    obtain ⟨h0, h6⟩ := and2 h
    obtain ⟨h0, h5⟩ := and2 h0
    obtain ⟨h0, h4⟩ := and2 h0
    obtain ⟨h1, h2, h3⟩ := and3 h0
    exact s_put G (of_decide_eq_true h1) h2 h3 (pe_ok np k X S _ _ G.toGd rfl h5).1 (pe_ok np v X S _ _ G.toGd rfl h6).1
  | .putS o k v, X, S, st, G, h => by
    cases st <;> first | (cases h; done) | skip
    rename_i ts e p
    rcases ts with _ | ⟨t, _ | ⟨t2, r⟩⟩ <;> first | (cases h; done) | (cases t <;> cases h; done) | skip
    cases t <;> first | (cases h; done) | skip
    obtain ⟨h0, h4⟩ := and2 h
    obtain ⟨h1, h2, h3⟩ := and3 h0
    exact s_putS G (pe_ok np o X S _ _ G.toGd rfl h2).1 (pe_ok np k X S _ _ G.toGd rfl h3).1 (pe_ok np v X S _ _ G.toGd rfl h4).1
  | .putO o k v, X, S, st, G, h => by
    cases st <;> first | (cases h; done) | skip
    rename_i ts e p
    rcases ts with _ | ⟨t, _ | ⟨t2, r⟩⟩ <;> first | (cases h; done) | (cases t <;> cases h; done) | skip
    cases t <;> first | (cases h; done) | skip
    obtain ⟨h0, h4⟩ := and2 h
    obtain ⟨h1, h2, h3⟩ := and3 h0
    exact s_putO G np (pe_ok np o X S _ _ G.toGd rfl h2).1 (pe_ok np k X S _ _ G.toGd rfl h3).1 (pe_ok np v X S _ _ G.toGd rfl h4).1
  | .sattN i f v, X, S, st, G, h => by
    cases st <;> first | (cases h; done) | skip
    rename_i ts e p
    rcases ts with _ | ⟨t, _ | ⟨t2, r⟩⟩ <;> first | (cases h; done) | (cases t <;> first | (cases h; done) | (rename_i o _ _; cases o <;> cases h; done)) | skip
    cases t <;> first | (cases h; done) | skip
    rename_i eo g p2
    cases eo <;> first | (cases h; done) | skip
    obtain ⟨h0, h6⟩ := and2 h
    obtain ⟨h0, h5⟩ := and2 h0
    obtain ⟨h0, h4⟩ := and2 h0
    obtain ⟨h1, h2, h3⟩ := and3 h0
    have e1 := of_decide_eq_true h4
    subst e1
    exact s_sattN G (of_decide_eq_true h1) h2 h3 ((pe_ok np v X S _ _ G.toGd rfl h6).2.2 h5)
  | .retF a, X, S, st, G, h => by
    cases st <;> first | (cases h; done) | skip
    rename_i v p
    cases v <;> first | (cases h; done) | skip
    obtain ⟨h1, h2⟩ := and2 h
    exact s_retF ((pe_ok np a X S _ _ G.toGd rfl h2).2.2 h1)
  | .retO i, X, S, st, G, h => by
    cases st <;> first | (cases h; done) | skip
    rename_i v p
    cases v <;> first | (cases h; done) | skip
    rename_i e
    cases e <;> first | (cases h; done) | skip
    obtain ⟨h1, h2, h3⟩ := and3 h
    exact s_retO G (of_decide_eq_true h1) h2 h3
  | .clr i, X, S, st, G, h => by
    cases st <;> first | (cases h; done) | skip
    rename_i e p
    cases e <;> first | (cases h; done) | skip
    rename_i fn es ks cp
    cases fn <;> first | (cases h; done) | skip
    rename_i o m ap
    cases o <;> first | (cases h; done) | skip
    rcases es with _ | ⟨e1, r⟩ <;> first | (cases h; done) | (cases ks <;> cases h; done) | skip
    cases ks <;> first | (cases h; done) | skip
    obtain ⟨h0, h5⟩ := and2 h
    obtain ⟨h0, h4⟩ := and2 h0
    obtain ⟨h1, h2, h3⟩ := and3 h0
    have e1 := of_decide_eq_true h4
    subst e1
    exact s_clr G (of_decide_eq_true h1) h2 h3 h5
  | .wip is, X, S, st, G, h => by cases st <;> cases h
  | .satt o f v, X, S, st, G, h => by
    cases st <;> first | (cases h; done) | skip
    rename_i ts e p
    rcases ts with _ | ⟨t, _ | ⟨t2, r⟩⟩ <;> first | (cases h; done) | (cases t <;> cases h; done) | skip
    cases t <;> first | (cases h; done) | skip
    obtain ⟨h0, h4⟩ := and2 h
    obtain ⟨h1, h2, h3⟩ := and3 h0
    have e1 := of_decide_eq_true h1
    subst e1
    exact s_satt G (pe_ok np o X S _ _ G.toGd rfl h3).1 (pe_ok np v X S _ _ G.toGd rfl h4).1 ((Bool.not_eq_true' _).mp h2)
  | .aug i op a, X, S, st, G, h => by
    cases st <;> first | (cases h; done) | skip
    rename_i t o e p
    cases t <;> first | (cases h; done) | skip
    obtain ⟨h0, h4⟩ := and2 h
    obtain ⟨h1, h2, h3⟩ := and3 h0
    have e1 := of_decide_eq_true h3
    subst e1
    exact s_aug G (of_decide_eq_true h1) h2 (pe_ok np a X S _ _ G.toGd rfl h4).1
  | .iff c a b, X, S, st, G, h => by
    cases st <;> first | (cases h; done) | skip
    obtain ⟨h1, h2, h3⟩ := and3 h
    exact s_if (pt_ok np c X S _ _ G.toGd rfl h1) (pb_ok a X S _ G h2) (pb_ok b X S _ G h3)
  | .whl c b, X, S, st, G, h => by
    cases st <;> first | (cases h; done) | skip
    rename_i e sb oe p
    cases oe <;> first | (cases h; done) | skip
    obtain ⟨h1, h2⟩ := and2 h
    exact s_whl G (pt_ok np c X S _ _ G.toGd rfl h1) (pb_ok b X S _ G h2)
  | .forr pt it b, X, S, st, G, h => by
    cases st <;> first | (cases h; done) | skip
    rename_i tg iter sb oe p
    cases oe <;> first | (cases h; done) | skip
    obtain ⟨h0, h4⟩ := and2 h
    obtain ⟨h1, h2, h3⟩ := and3 h0
    exact s_for G h1 h2 (pi_ok np it X S tg _ _ G.toGd rfl h3) (pb_ok b X S _ G h4)
  | .ret a, X, S, st, G, h => by
    cases st <;> first | (cases h; done) | skip
    rename_i v p
    cases v <;> first | (cases h; done) | skip
    exact s_ret (pe_ok np a X S _ _ G.toGd rfl h).1
  | .retn, X, S, st, G, h => by
    cases st <;> first | (cases h; done) | skip
    rename_i v p
    cases v <;> first | (cases h; done) | skip
    exact s_retn
  | .brk, X, S, st, G, h => by
    cases st <;> first | (cases h; done) | skip
    exact s_brk
  | .cnt, X, S, st, G, h => by
    cases st <;> first | (cases h; done) | skip
    exact s_cnt
  | .pass, X, S, st, G, h => by
    cases st <;> first | (cases h; done) | skip
    exact s_pass
  | .app i a, X, S, st, G, h => by
    cases st <;> first | (cases h; done) | skip
    rename_i e p
    cases e <;> first | (cases h; done) | skip
    rename_i fn es ks cp
    cases fn <;> first | (cases h; done) | skip
    rename_i o m ap
    cases o <;> first | (cases h; done) | skip
    rcases es with _ | ⟨e1, _ | ⟨e2, r⟩⟩ <;> first | (cases h; done) | (cases ks <;> cases h; done) | skip
    cases ks <;> first | (cases h; done) | skip
    obtain ⟨h0, h7⟩ := and2 h
    obtain ⟨h0, h6⟩ := and2 h0
    obtain ⟨h0, h5⟩ := and2 h0
    obtain ⟨h0, h4⟩ := and2 h0
    obtain ⟨h1, h2, h3⟩ := and3 h0
    have e1 := of_decide_eq_true h4
    subst e1
    exact s_app G (of_decide_eq_true h1) h2 h3 h5 h6 (pe_ok np a X S _ _ G.toGd rfl h7).1
  | .ext i a, X, S, st, G, h => by
    cases st <;> first | (cases h; done) | skip
    rename_i e p
    cases e <;> first | (cases h; done) | skip
    rename_i fn es ks cp
    cases fn <;> first | (cases h; done) | skip
    rename_i o m ap
    cases o <;> first | (cases h; done) | skip
    rcases es with _ | ⟨e1, _ | ⟨e2, r⟩⟩ <;> first | (cases h; done) | (cases ks <;> cases h; done) | skip
    cases ks <;> first | (cases h; done) | skip
    obtain ⟨h0, h7⟩ := and2 h
    obtain ⟨h0, h6⟩ := and2 h0
    obtain ⟨h0, h5⟩ := and2 h0
    obtain ⟨h0, h4⟩ := and2 h0
    obtain ⟨h1, h2, h3⟩ := and3 h0
    have e1 := of_decide_eq_true h4
    subst e1
    exact s_ext G (of_decide_eq_true h1) h2 h3 h5 h6 (pe_ok np a X S _ _ G.toGd rfl h7).1
  | .pop k i, X, S, st, G, h => by
    cases st <;> first | (cases h; done) | skip
    rename_i ts e p
    rcases ts with _ | ⟨t, _ | ⟨t2, r⟩⟩ <;> first | (cases h; done) | (cases t <;> cases h; done) | skip
    cases t <;> first | (cases h; done) | skip
    rename_i z pz
    cases e <;> first | (cases h; done) | skip
    rename_i fn es ks cp
    cases fn <;> first | (cases h; done) | skip
    rename_i o m ap
    cases o <;> first | (cases h; done) | skip
    rcases es with _ | ⟨e1, r⟩ <;> first | (cases h; done) | (cases ks <;> cases h; done) | skip
    cases ks <;> first | (cases h; done) | skip
    obtain ⟨h0, h7⟩ := and2 h
    obtain ⟨h0, h6⟩ := and2 h0
    obtain ⟨h0, h5⟩ := and2 h0
    obtain ⟨h0, h4⟩ := and2 h0
    obtain ⟨h1, h2, h3⟩ := and3 h0
    have e1 := of_decide_eq_true h4
    subst e1
    exact s_pop G (of_decide_eq_true h1) h2 h3 h5 (of_decide_eq_true h6) h7
  | .never, X, S, st, G, h => s_never
  | .frz i, X, S, st, G, h => by cases st <;> cases h
theorem pb_ok : ∀ (l : Ss) (X : Cx) (S : SC) (sts : List Stmt), Gs tb Φ x N j S X → chkB x N X.env.scope l sts = true → PSs X sts (tSs tb Φ S l)
  | .nil, X, S, sts, G, h => by
    cases sts <;> first | (cases h; done) | skip
    exact PSs.imp pss_nil fun D σ H ⟨B, ι, e, hh, r, q⟩ => q ι σ H r
  | .cons s l, X, S, sts, G, h => b_cons (fun st => ps_ok s X S st G) (fun sts => pb_ok l X S sts G) h
end
end
end MP

set_option maxRecDepth 100000
set_option maxHeartbeats 1000000
/-! MP24: defs. -/
namespace MP
open PySem PySem.Spec PyProof.Rows L2

/-- a def's text, as the checker saw it -/
structure FnT (tb : Tb) (x : Tx) (F : Nat → Option Fd) (K : PySem.W.Frag) (f : Nat) (fd : Fd) : Prop where
  ex : ∃ (name qual : Str) (params : Arguments) (body : List Stmt) (scope : Scope) (dvs : List V) (kws : List (Str × V)) (N : List Str), FunD K name qual params body scope dvs kws (x.fa f) (x.fdat f) ∧
    FnScope N (x.fps f) scope ∧ fd.ns = N.length ∧ fd.np = (x.fps f).length ∧ fd.sup = none ∧ fd.fr = x.frs f ∧ chkB x N scope fd.body body = true
/-- the facts of one text -/
structure Txt (tb : Tb) (x : Tx) (F : Nat → Option Fd) (P : Program) (w : World) (K : PySem.W.Frag) (mg : Str → Option Value) (base : Heap) : Prop where
  tx : TxF tb x ⟨P, w, K, x.ca⟩ mg
  /-- a def is one of the text, or keeps its promise at every level for some other reason -/
  fn : ∀ f fd, F f = some fd → FnT tb x F K f fd ∨ (fd.np = (x.fps f).length ∧ ∀ k, (∀ g, FnOk P w K mg base cx0 (2 * k) (x.fa g) (x.fdat g) (x.fps g) (spF ⟨P, w, K, x.ca⟩ (x.fps g).length (x.frs g) (callN tb F k g))) →
    FnOk P w K mg base cx0 (2 * (k + 1)) (x.fa f) (x.fdat f) (x.fps f) (spF ⟨P, w, K, x.ca⟩ (x.fps f).length (x.frs f) (callN tb F (k + 1) f)))

section
variable {tb : Tb} {x : Tx} {F : Nat → Option Fd} {P : Program} {w : World} {K : PySem.W.Frag} {mg : Str → Option Value} {base : Heap}
theorem spF_none {C : RC} {np : Nat} {fr : Bool} {run : List D → MH → R D} (h : ∀ ds h, run ds h = .no) {vs : List V} {H : Hp} {Q : VK} {E : XK} (q : spF C np fr run vs H Q E) : False := by
  obtain ⟨_, ι, M, ds, hh, d, h', _, _, e, _⟩ := q
  rw [h] at e
  cases e
theorem callN_np (T : Txt tb x F P w K mg base) (k : Nat) (f : Nat) (ds : List D) (h : MH) (d : D) (h' : MH) (e : callN tb F k f ds h = .ok d h') : ds.length = (x.fps f).length := by
  cases k with
  | zero => cases e
  | succ k =>
    cases hf : F f with
    | none => unfold callN at e; rw [hf] at e; cases e
    | some fd =>
      unfold callN at e
      rw [hf] at e
      obtain ⟨h1, _⟩ := ite_ok e
      rcases T.fn f fd hf with ⟨_, _, _, _, _, _, _, _, _, _, _, hn, _⟩ | ⟨hn, _⟩
      · rw [h1, hn]
      · rw [h1, hn]
theorem fn_ok (T : Txt tb x F P w K mg base) : ∀ (k : Nat) (f : Nat), FnOk P w K mg base cx0 (2 * k) (x.fa f) (x.fdat f) (x.fps f) (spF ⟨P, w, K, x.ca⟩ (x.fps f).length (x.frs f) (callN tb F k f))
  | 0, f => ⟨fun vs H Q E q => (spF_none (fun _ _ => rfl) q).elim, fun A outer s H args us vs Q E _ _ _ _ q => (spF_none (fun _ _ => rfl) q).elim⟩
  | k + 1, f => by
    have ih := fn_ok T k
    cases hf : F f with
    | none =>
      have hn : ∀ ds h, callN tb F (k + 1) f ds h = .no := fun ds h => by unfold callN; rw [hf]
      exact ⟨fun vs H Q E q => (spF_none hn q).elim, fun A outer s H args us vs Q E _ _ _ _ q => (spF_none hn q).elim⟩
    | some fd =>
      rcases T.fn f fd hf with ⟨name, qual, params, body, scope, dvs, kws, N, hd, hs, hns, hnp, hsu, hfr, hc⟩ | ⟨_, h2⟩
      · refine FunD.ok (k := 2 * k + 1) hd hs (fun vs H Q E q => q.1) fun cdv A outer s H vs Q E hr q => ?_
        obtain ⟨hl, ι, M, ds, h, d, h', scn, r, e, Kk⟩ := q
        unfold callN at e
        rw [hf] at e
        obtain ⟨h1, e⟩ := ite_ok e
        rw [hsu] at e
        have hb : ∀ {r : R D}, (if fd.fr then R.no else r) = R.ok d h' → x.frs f = false ∧ r = R.ok d h' := fun z => by
          rw [hfr] at z
          cases hx : x.frs f with
          | true => rw [hx] at z; cases z
          | false => rw [hx] at z; exact ⟨rfl, z⟩
        have G : Gs tb (callN tb F k) x N (2 * k) ⟨⟨P, w, K, x.ca⟩, H, M, ι⟩ (cxOf cx0 P w K mg base N qual scope (x.fa f) cdv A outer s H E) :=
          ⟨⟨rfl, rfl, rfl, hs.nd, (by have := hr.un; show (A.deeper _).units + 65 < cLine; omega), T.tx, ih, hr⟩, fun _ => rfl, passes_of (K := fun e s' => cx0 outer H s E e s') rfl, hs.kind⟩
        refine ⟨tSs tb (callN tb F k) ⟨⟨P, w, K, x.ca⟩, H, M, ι⟩ fd.body, pb_ok (callN_np T k) fd.body _ ⟨⟨P, w, K, x.ca⟩, H, M, ι⟩ body G hc, ?_⟩
        have hpl : (x.fps f).length ≤ N.length := by have := congrArg List.length hs.pre; rw [List.length_take] at this; omega
        have rl := scn.rel r (N := N) (by rw [hl]; exact hpl)
        rw [← hns] at rl
        have mu : ∀ a, Mu M ι (startE fd.ns ds) (L2.start N vs) a → M a := fun a m => by
          rcases m with m | m | ⟨i, ⟨d, z⟩, _⟩
          · exact m
          · exact scn.sub a m
          · rcases startE_get z with ⟨_, _, z⟩ | z <;> cases z
        refine ⟨⟨ι, M, H⟩, ι, startE fd.ns ds, h, ⟨rl, .less mu, scn.known⟩, ?_⟩
        have e' : (match execs tb (callN tb F k) fd.body (startE fd.ns ds) h with
          | .nx _ h => if fd.fr then .no else R.ok D.non h
          | .rt d h => if fd.fr then .no else .ok d h
          | .rtF d h => if fd.fr then .ok d h else .no
          | .ex c fs _ h => .ex c fs h
          | _ => .no) = R.ok d h' := e
        cases hx : execs tb (callN tb F k) fd.body (startE fd.ns ds) h with
        | nx e2 h2 =>
          rw [hx] at e'
          obtain ⟨f0, e'⟩ := hb e'
          cases e'
          exact fun ι' σ' H' r' => Kk ι' H' .non (r'.rl.aft r'.go scn.sub) (fun _ => .non) fun z => by rw [f0] at z; cases z
        | rt d2 h2 =>
          rw [hx] at e'
          obtain ⟨f0, e'⟩ := hb e'
          cases e'
          refine fun ι' e2 σ' H' v r' rp => Kk ι' H' v (r'.rl.aft r'.go scn.sub) (fun _ => rp.go (.less fun a m => ?_)) fun z => by rw [f0] at z; cases z
          rcases m with m | m
          · exact .inl m
          · exact .inr (.inl m)
        | rtF d2 h2 =>
          rw [hx] at e'
          have e2 : (if fd.fr then R.ok d2 h2 else R.no) = R.ok d h' := e'
          rw [hfr] at e2
          cases f0 : x.frs f with
          | false => rw [f0] at e2; cases e2
          | true =>
            rw [f0] at e2
            cases e2
            refine fun ι' e2 σ' H' p r' => ?_
            have rd := r'.rl.drop
            have sub : ∀ a, ((M a ∨ a ∈ ι') ∨ a = p) → Mu (SP1 ⟨⟨P, w, K, x.ca⟩, H, M, ι⟩ p).M0 ι' e2 σ' a := fun a m => SP1.mu.mpr (by
              rcases m with (m | m) | m
              · exact .inl (.inl m)
              · exact .inl (.inr (.inl m))
              · exact .inr m)
            have gl : Go ι' (Mu (SP1 ⟨⟨P, w, K, x.ca⟩, H, M, ι⟩ p).M0 ι' e2 σ') H' ι' (fun a => (M a ∨ a ∈ ι') ∨ a = p) H' := .less sub
            refine Kk ι' H' (.ref p) (rd.aft (r'.go.trans SP1.less) scn.sub) (fun z => by rw [f0] at z; cases z) fun _ => ⟨p, rfl, r'.h0, r'.ni, fun n d q => ?_, r'.c.go gl fun _ z => z⟩
            obtain ⟨a, q1, q2⟩ := r'.rl.hp n d q
            exact ⟨a, q1, q2.go gl fun _ z => z⟩
        | ct e2 h2 => rw [hx] at e'; cases e'
        | bk e2 h2 => rw [hx] at e'; cases e'
        | ex c fs e2 h2 => rw [hx] at e'; cases e'
        | no => rw [hx] at e'; cases e'
      · exact h2 k ih
end
end MP

set_option maxRecDepth 100000
set_option maxHeartbeats 1000000
/-! MP25: a method that only says return super().m(x). -/
namespace MP
open PySem PySem.Spec PyProof.Rows L2 PySem.W PySem.Calls NdefX

structure SupD where
  name : Str
  qual : Str
  params : Arguments
  scope : Scope
  m : Str
  s : Str
  y : Str
  p0 : Pos
  p1 : Pos
  ap : Pos
  py : Pos
  p3 : Pos
  p4 : Pos
def SupD.body (d : SupD) : List Stmt := [.Return (some (.Call (.Attribute (.Call (.Name "super" d.p0) [] [] d.p1) d.m d.ap) [.Name d.y d.py] [] d.p3)) d.p4]
abbrev SupD.nf (d : SupD) (cc cda : Addr) : NF := ⟨d.name, d.qual, d.params, d.body, d.scope, [("__class__", cc)], cda⟩
structure SupK (P : Program) (K : PySem.W.Frag) (d : SupD) (f f2 D C : Addr) (cc cda : Addr) (fd : FuncData) : Prop where
  lk : ∃ (oc : Value) (od : Option Addr) (osl : Array (Option Value)) (doc pm ctv : Value), fd = (d.nf cc cda).fd doc pm ctv ∧ K.lookup f = some ⟨oc, od, .func fd, osl⟩
  hcd : codeIn K (.ref cda) d.qual = true
  sc : NScope [d.s, d.y, "__class__"] [d.s, d.y] ["__class__"] d.scope
  sup : d.scope.names.lookup ("super" : Str) = some .globalImplicit
  head : ∃ ar, (d.params.posonlyargs ++ d.params.args).head? = some ar ∧ ar.arg = d.s
  code : ∃ (ccl : Value) (cdd : Option Addr) (vs : Array Value) (ccs : Array (Option Value)) (file : Str) (tf : Tok), K.lookup cda = some ⟨ccl, cdd, .fields vs, ccs⟩ ∧ vs[2]? = some (.str file tf) ∧ ((P.main.file : Str) == file) = true
  cell : ∃ (cl : Value) (cld : Option Addr) (csl : Array (Option Value)), K.lookup cc = some ⟨cl, cld, .cell (some (.ref D)), csl⟩
  cls : ∃ cdD, clsIn K D = some cdD
  sub : mroIn K C (.ref D) = some true
  top : (P.main.scope.names.lookup ("super" : Str)).isSome = false
  along : ks_superIn K C D d.m = some (some (.ref f2))
  typ : typeIn K (.ref f2) = some (.type "function")
  fn2 : fnIn K f2 = true
  nm : (d.m == ("__class__" : Str)) = false
  opq : nsIn K cStatics "thirdparty.any" = some none
  ln : (d.ap.endLine == d.p3.line) = true
  dbg : (d.y == ("__debug__" : Str)) = false
theorem fnok_sup {P : Program} {w : World} {K : PySem.W.Frag} {mg : Str → Option Value} {base : Heap} {k : Nat} {d : SupD} {f f2 D C cc cda : Addr} {fd fd2 : FuncData} {ps2 : List Str} {sp : Sp} (S : SupK P K d f f2 D C cc cda fd) (hsup : mg ("super" : Str) = none)
    (F2 : FnOk P w K mg base cx0 k f2 fd2 ps2 sp) (b2 : Binds K fd2 ps2 []) : FnOk P w K mg base cx0 (k + 1) f fd [d.s, d.y] (fun vs H Q E => (∃ a dx fs v, vs = [.ref a, v] ∧ H a = some (.ins C dx fs)) ∧ sp vs H Q E) := by
  refine ⟨fun vs H Q E ⟨⟨a, dx, fs, v, e, _⟩, _⟩ => by rw [e]; rfl, fun A outer s H args us vs Q E hr e0 hb r ⟨⟨a, dx, fs, v2, ev, ha⟩, hsp⟩ => ?_⟩
  subst ev
  obtain ⟨u1, u2, rfl, ru1, ru2⟩ := r.two
  obtain rfl : u1 = Value.ref a := ru1
  obtain ⟨oc, od, osl, doc, pm, ctv, rfl, lk⟩ := S.lk
  obtain ⟨ar, har, hars⟩ := S.head
  obtain ⟨ccl, cdd, cvs, ccs, file, tf, hcode, hvs, hfile⟩ := S.code
  obtain ⟨cl, cld, csl, hcell⟩ := S.cell
  obtain ⟨cdD, hD⟩ := S.cls
  have kb : ∀ b o, base.get? b = some o → s.heap.get? b = some o := fun b o e => (e0.bs b o e).1
  have KX : K.In s.heap := e0.mod.kin.keeps kb
  have lim : s.heap.NoLimit := e0.mod.nolimit.keeps kb
  obtain ⟨mA, O, _, _, _, hdx⟩ := ins_get e0.hok ha
  obtain ⟨odx, Ia, _⟩ := O.look
  refine ks_codeAny_call_defAt (fd := (d.nf cc cda).fd doc pm ctv) (body := d.body) (binds := [(d.s, .ref a), (d.y, u2)]) hr.depth (KX _ _ lk) rfl lim (codeRec_of KX S.hcd) rfl hb S.sc.nocell (fun x hx => ?_) (fun h₀ hns hk => ?_) S.sc.co S.sc.gen S.sc.kind
  · rcases List.mem_cons.mp hx with rfl | hx
    · exact S.sc.par _ (by simp)
    · rcases List.mem_cons.mp hx with rfl | hx
      · exact S.sc.par _ (by simp)
      · cases hx
  have K0 : K.In h₀ := KX.keeps hk
  show _root_.PySem.wpAt (model P w) (A.deeper (envF (d.nf cc cda) f s.heap.objs.size)) (.func d.body (envF (d.nf cc cda) f s.heap.objs.size)) (PySem.execs d.body (envF (d.nf cc cda) f s.heap.objs.size)) _ _ _
  refine ks_wpAt_execs_cons (ks_wpAt_Return_some (ks_wpAt_MethodCall (pl := (do return (← importBound (.Call (.Name "super" d.p0) [] [] d.p1) (envF (d.nf cc cda) f s.heap.objs.size)).getD true)) ?_ ?he))
  case he =>
    refine congrArg (fun k => attributeBase (.Call (.Name "super" d.p0) [] [] d.p1) d.m (envF (d.nf cc cda) f s.heap.objs.size) (eval (.Call (.Name "super" d.p0) [] [] d.p1) (envF (d.nf cc cda) f s.heap.objs.size)) >>= k) (funext fun ov => congrArg (fun k => standAt d.ap.atName >>= k) (funext fun _ => ?_))
    unfold methodCall
    rw [show methodCallForm ([Expr.Name d.y d.py].length + ([] : List Keyword).length) (backTo d.p3 (starEach [.Name d.y d.py] (envF (d.nf cc cda) f s.heap.objs.size))) (backToKw d.p3 (keywordEach [] (envF (d.nf cc cda) f s.heap.objs.size))) = true from rfl]
    unfold methodCallPos
    rw [S.ln]
    rfl
  have hlenNs : (fun x => List.lookup x ([(d.s, Value.ref a), (d.y, u2)] : List (Str × Value)).reverse) d.s = some (.ref a) := by
    have nd := S.sc.nd
    have hne : d.s ≠ d.y := fun z => by rw [z] at nd; simp at nd
    have hb2 : (d.s == d.y) = false := beq_eq_false_iff_ne.mpr hne
    show List.lookup d.s [(d.y, u2), (d.s, .ref a)] = _
    rw [List.lookup_cons, hb2]
    show List.lookup d.s [(d.s, Value.ref a)] = _
    rw [List.lookup_cons, beq_self_eq_true]
  have hy : (fun x => List.lookup x ([(d.s, Value.ref a), (d.y, u2)] : List (Str × Value)).reverse) d.y = some u2 := by
    show List.lookup d.y [(d.y, u2), (d.s, .ref a)] = _
    rw [List.lookup_cons, beq_self_eq_true]
  have hkof : ∀ z, (envF (d.nf cc cda) f s.heap.objs.size).kindOf z = d.scope.names.lookup z := fun z => rfl
  obtain ⟨mb, hbl, hbb⟩ := e0.mod.blt
  refine ks_wpAt_super_base (env := envF (d.nf cc cda) f s.heap.objs.size) (f := f) (cc := cda) (file := file) (tf := tf) (ar := ar) S.sup (S.sc.frk _ (by simp)) S.nm rfl (K0 _ _ lk) rfl har rfl (K0 _ _ hcode) rfl hvs hfile S.top ?_
  refine ks_loadName_global S.sc.kind S.sup (loadGlobal_builtin (env := envF (d.nf cc cda) f s.heap.objs.size) (e0.mod.glob.keeps fun b o e => hk b o (kb b o e)) hsup (hbl.keeps fun b o e => hk b o (kb b o e)) ((hbb _ (by decide)).trans (by first | rfl | decide +kernel)) ⟨rfl, ?_⟩)
  refine wpAny_loadName_free S.sc.kind (S.sc.frk _ (by simp)) (by rfl) ⟨_, K0 _ _ hcell, rfl⟩ ?_
  rw [hars]
  refine wpAny_loadName_local S.sc.kind (S.sc.par _ (by simp)) hns hlenNs ?_
  obtain ⟨oD, hD1, hD2⟩ : ∃ oD, h₀.get? D = some oD ∧ oD.data = .cls cdD := by
    unfold clsIn at hD
    split at hD
    · rename_i c d cd' sl ho
      cases hD
      exact ⟨_, K0 _ _ ho, rfl⟩
    · cases hD
  refine ks_wpAny_isType_cls hD1 hD2 ⟨rfl, ?_⟩
  have Ia0 : h₀.get? a = some _ := hk _ _ Ia.at_
  have hnc : ∀ c, (instObj C dx).data ≠ .cls c := fun c e => by
    have := Ia.no
    unfold notCls at this
    rw [e] at this
    exact Bool.noConfusion this
  refine ks_wpAny_call_super hD1 hD2 Ia0 Ia.cls hnc (looks_mroIn K0 S.sub) (fun h1 hso k1 => ?_)
  have K1 : K.In h1 := K0.keeps k1
  -- the method
  cases hcC : clsIn K C with
  | none =>
    have := S.along
    unfold ks_superIn at this
    rw [hcC] at this
    cases this
  | some cdC =>
    have hal := S.along
    unfold ks_superIn at hal
    rw [hcC] at hal
    obtain ⟨of, hof, hofc⟩ : ∃ of, h1.get? f2 = some of ∧ of.cls = .type "function" := by
      have ht' : (K.lookup f2).map (·.cls) = some (.type "function") := S.typ
      cases z : K.lookup f2 with
      | none => rw [z] at ht'; cases ht'
      | some of => rw [z] at ht'; exact ⟨of, K1 _ _ z, Option.some.inj ht'⟩
    have hxC : a ≠ C := by
      rintro rfl
      unfold clsIn at hcC
      split at hcC
      · rename_i c d cd' sl ho
        have e := KX _ _ ho
        rw [Ia.at_] at e
        cases e
      · cases hcC
    refine ks_wpAny_getMethod_super hso (looks_opaque K1 S.opq) (l₀ := cdC.mro) (fun A Q E s k q => wpAny_bind ((looks_clsIn K1 hcC) A _ E s k (wpAny_pure q))) rfl K1 hal hof hofc hxC S.nm ?_
    -- the call of it
    have k2 : ∀ b o, h₀.get? b = some o → (h1.push { cls := .type "method", data := .fields #[.ref f2, .ref a] }).get? b = some o := fun b o e => Heap.get?_push_of_some _ (k1 b o e)
    have K2 := K0.keeps k2
    have I0 := inv_startN (CX := cx0) (E := E) (f := f) (F := d.nf cc cda) (ws := [none]) (tk := s.toks) S.sc hr.hd e0 rfl r ⟨rfl, fun y c hc => ?_, fun x y c hx hy => ?_, fun i y hi => ?_⟩ hns hk
    · have I2 := fun tk => I0.kept (t' := tk) k2
      refine PySem.W.callWith_of (P := MethP K h1.objs.size f2 (.ref a)) (by rfl) (keeps_M S.fn2) (PySem.Calls.evalArgs_plain ?_)
      show wpAny _ _ (spliced ((false, eval (.Name d.y d.py) (envF (d.nf cc cda) f s.heap.objs.size)) :: backTo d.p3 (starEach [] (envF (d.nf cc cda) f s.heap.objs.size)))) _ _ _
      refine Calls.spliced_cons (wpAny_Name (wpAny_loadName_local S.sc.kind (S.sc.par _ (by simp)) (hns.keeps k2) hy ?_) S.dbg)
      refine Calls.spliced_nil ⟨⟨Heap.get?_push_size _ rfl, K2⟩, wpAny_call (ks_codeAny_call_bound (Heap.get?_push_size _ rfl) ?_)⟩
      have J := I2 (s.toks + 2 + 1)
      refine codeAny_mono (F2.run _ _ _ H ⟨[.ref a, u2], []⟩ ([.ref a, u2] ++ []) [.ref a, v2] Q E (hr.deeper _) J.env0 (b2 _ [.ref a, u2] J.kIn ?_) r hsp) fun r s' hq => ?_
      · exact F2.len _ _ _ _ hsp
      · cases r with
        | error e => exact hq.elim
        | ok fl =>
          cases fl with
          | ret u =>
            obtain ⟨v, H', Z, rv, q⟩ := J.after hq
            exact ⟨v, H', Z.os, Z.bare, Z.base, Z.hok, rv, q⟩
          | next => exact False.elim hq
          | brk => exact False.elim hq
          | cont => exact False.elim hq
    · have e : y = ("__class__" : Str) ∧ c = cc := by
        rw [List.lookup_cons] at hc
        cases hb3 : (y == ("__class__" : Str)) with
        | true => rw [hb3] at hc; cases hc; exact ⟨beq_iff_eq.mp hb3, rfl⟩
        | false => rw [hb3] at hc; cases hc
      obtain ⟨_, rfl⟩ := e
      exact ⟨(e0.bs _ _ (e0.mod.kin _ _ hcell)).2, _, ⟨_, KX _ _ hcell, rfl⟩⟩
    · rw [List.lookup_cons] at hx hy
      cases hb3 : (x == ("__class__" : Str)) with
      | false => rw [hb3] at hx; cases hx
      | true =>
        cases hb4 : (y == ("__class__" : Str)) with
        | false => rw [hb4] at hy; cases hy
        | true => rw [beq_iff_eq.mp hb3, beq_iff_eq.mp hb4]
    · cases i with
      | zero =>
        cases hi
        exact ⟨cc, by rfl, fun v z => by cases z⟩
      | succ i => cases hi
section
variable {tb : Tb} {x : Tx} {F : Nat → Option Fd} {P : Program} {w : World} {K : PySem.W.Frag} {mg : Str → Option Value} {base : Heap}
theorem Scn.view {C : RC} {ι : List Addr} {M : Addr → Prop} {h : MH} {H : Hp} {v : V} {d c : D} (s : Scn C ι M h H) (r : Rep C ι M H v d) (q : view d h = some c) : VRep C ι M H v c := by
  cases d with
  | ref n =>
    cases r with
    | ref hn =>
      obtain ⟨a, h1, h2⟩ := s.hp n c q
      rw [hn] at h1
      cases h1
      exact h2.vw
  | _ =>
    cases q
    exact r.vw fun k z => by cases z
/-- .. in the small language: the method f of the class c goes on to the def g -/
theorem sup_fn {f g c : Nat} {fd : Fd} {d : SupD} {D cc cda : Addr} (hF : F f = some fd) (hs : fd.sup = some (c, g)) (S : SupK P K d (x.fa f) (x.fa g) D (x.ca c) cc cda (x.fdat f)) (hp : x.fps f = [d.s, d.y]) (hg : (x.fps g).length = 2) (hn : fd.np = 2) (hsup : mg ("super" : Str) = none) (b2 : Binds K (x.fdat g) (x.fps g) []) (hfr : x.frs f = x.frs g) :
    fd.np = (x.fps f).length ∧ ∀ k, (∀ g, FnOk P w K mg base cx0 (2 * k) (x.fa g) (x.fdat g) (x.fps g) (spF ⟨P, w, K, x.ca⟩ (x.fps g).length (x.frs g) (callN tb F k g))) →
    FnOk P w K mg base cx0 (2 * (k + 1)) (x.fa f) (x.fdat f) (x.fps f) (spF ⟨P, w, K, x.ca⟩ (x.fps f).length (x.frs f) (callN tb F (k + 1) f)) := by
  refine ⟨by rw [hn, hp]; rfl, fun k ih => ?_⟩
  have q := (fnok_sup (w := w) S hsup (ih g) b2).mono (show 2 * k + 1 ≤ 2 * (k + 1) by omega)
  rw [hp, hfr]
  refine q.imp fun vs H Q E ⟨hl, ι, M, ds, h, dr, h', scn, r, e, K⟩ => ?_
  unfold callN at e
  rw [hF] at e
  obtain ⟨h1, e⟩ := ite_ok e
  rw [hs] at e
  cases ds with
  | nil => cases e
  | cons x0 ds =>
    have e' : (match view x0 h with
      | some (.ins c' _) => if c' = c then callN tb F k g (x0 :: ds) h else .no
      | _ => .no) = R.ok dr h' := e
    cases hv : view x0 h with
    | none => rw [hv] at e'; cases e'
    | some dv =>
      rw [hv] at e'
      cases r with
      | @cons v vs _ _ r1 rs =>
        have rv := scn.view r1 hv
        cases rv with
        | @ins a c' dx vfs fs ha hfs =>
          obtain ⟨hc, e2⟩ := ite_ok e'
          subst hc
          have hl2 : vs.length = 1 := by simpa using hl
          cases vs with
          | nil => cases hl2
          | cons v2 vs =>
            cases vs with
            | cons _ _ => cases hl2
            | nil => exact ⟨⟨a, dx, vfs, v2, rfl, ha⟩, by rw [hg]; rfl, ι, M, x0 :: ds, h, dr, h', scn, .cons r1 rs, e2, K⟩
        | _ => cases e'
end
end MP

set_option maxRecDepth 100000
set_option maxHeartbeats 1000000
/-! MP26: a law's table, and what of it is looked up in the written part. -/
namespace MP
open PySem PySem.Spec PyProof.Rows L2

structure LT where
  cl : List Str
  fn : List (Str × Option Str)
  ps : List (List Str)
  gl : List (Str × D)
  fr : List Str
  mt : List ((Nat × Str) × Nat)
  ini : List (Nat × Nat)
  fl : List (Nat × Str)
  sb : List (List Bool)
  /-- the defs that hand back a new list or dict -/
  frs : List Nat := []
  /-- the defaults a def's call has, so many arguments given -/
  df : List ((Nat × Nat) × List D) := []
def LT.norm (L : LT) (c : Nat) : Nat := if c < L.cl.length then c else 0
def LT.tb (L : LT) (N : Nat) : Tb where
  meth := fun c m => (L.mt.find? fun p => decide (p.1.1 = c ∧ p.1.2 = m)).map (·.2)
  fld := fun c f => L.fl.any fun p => decide (p.1 = c ∧ p.2 = f)
  init := fun c => (L.ini.find? fun p => decide (p.1 = c)).map (·.2)
  sub := fun c t => (L.sb.getD (L.norm c) []).getD (L.norm t) false
  glo := fun g => (L.gl.getD g ("", .non)).2
  dfl := fun f n => ((L.df.find? fun p => decide (p.1.1 = f ∧ p.1.2 = n)).map (·.2)).getD []
  N := N
def LT.ca (L : LT) (K : PySem.W.Frag) (c : Nat) : Addr := He.ga K (L.cl.getD (L.norm c) "")
def LT.fa (L : LT) (K : PySem.W.Frag) (f : Nat) : Addr := He.fAd K (L.fn.getD f ("", none))
def LT.tx (L : LT) (K : PySem.W.Frag) (fdat : Nat → FuncData) : Tx where
  ca := L.ca K
  fa := L.fa K
  fdat := fdat
  fps := fun f => L.ps.getD f []
  frs := fun f => L.frs.contains f
  fnN := fun f => match L.fn[f]? with
    | some (n, none) => some n
    | _ => none
  clN := fun c => L.cl[c]?
  glN := fun g => (L.gl[g]?).map (·.1)
  free := fun n => L.fr.contains n
/-- a flat value -/
def D.fv : D → Option V
  | .non => some .non
  | .bl b => some (.bl b)
  | .int i => some (.int i)
  | .str x => some (.str x)
  | _ => none
def fvs : List D → Option (List V)
  | [] => some []
  | d :: r => match d.fv, fvs r with
    | some v, some l => some (v :: l)
    | _, _ => none
/-- u stands for the constant d: flat, or a tuple of such -/
def cB (K : PySem.W.Frag) (d : D) (u : Value) : Bool := match d.fv with
  | some v => He.relB v u
  | none => (match d, u with
    | .tup ds, .ref a => (match fvs ds, K.lookup a with
      | some vs, some ⟨.type c, none, .seq its _, _⟩ => decide (c = "tuple") && (decide (its.size ≤ sizeLine) && He.relAll vs its.toList)
      | _, _ => false)
    | _, _ => false)
def cBs (K : PySem.W.Frag) : List (D × D) → List DictEntry → Bool
  | [], [] => true
  | (.str x, d) :: r, e :: es => (match e.key with
    | .str y _ => decide (y = x)
    | _ => false) && (cB K d e.val && cBs K r es)
  | _, _ => false
def keyS : D → Str
  | .str x => x
  | _ => Str.empty
def glB2 (K : PySem.W.Frag) (u : Value) (d : D) : Bool := match d, u with
  | .dct ds, .ref a => (match K.lookup a with
    | some ⟨_, _, .dict es _, _⟩ => cBs K ds es.toList && (decide (ds.length ≤ sizeLine) && decide ((ds.map fun p => keyS p.1).Nodup))
    | _ => false)
  | _, _ => cB K d u
def glV (K : PySem.W.Frag) (x : Str) (d : D) : Bool := match PySem.W.nsIn K mainGlobals x with
  | some (some u) => glB2 K u d
  | _ => false
/-- the dicts among the constants: as they stand, as they should -/
def LT.tabs (L : LT) (K : PySem.W.Frag) : List (Option (List (Option (Str × Int)))) := L.gl.map fun p => match p.2 with
  | .dct _ => He.dicW K (He.ga K p.1)
  | _ => none
def LT.tabV (L : LT) (w : World) : List (Option (List (Option (Str × Int)))) := L.gl.map fun p => match p.2 with
  | .dct ds => some (He.keysIn w.params (ds.map fun p => keyS p.1))
  | _ => none
def tyBases : List String := ["NoneType", "bool", "int", "str", "list", "tuple"]
def tyAll : List Ty := [.int, .str, .bool, .list, .tuple]
def LT.ok (L : LT) (K : PySem.W.Frag) : Bool :=
  decide (0 < L.cl.length) &&
  (L.cl.all fun x => (He.Fa.cls x).ok K && (He.eqO (PySem.W.findIn K (.ref (He.ga K x)) "__class__") (some (some (.builtin "object.__class__"))) && decide (PySem.W.mroIn K (He.ga K x) (.type "object") = some true))) &&
  (He.eqO (PySem.W.specialIn K (.builtin "object.__class__") "__get__") (some (some (.builtin "getset_descriptor.__get__"))) && decide (PySem.W.takesIn K (.builtin "object.__class__") = some true)) &&
  (tyBases.all fun n => (tyAll.all fun t => decide (PySem.W.kitOne K (.type n) (tyVal (L.ca K) t) = some (bIs n t))) && (L.cl.all fun x => decide (PySem.W.kitOne K (.type n) (.ref (He.ga K x)) = some false))) &&
  ((List.range L.cl.length).all fun c => (tyAll.all fun t => decide (PySem.W.kitOne K (.ref (L.ca K c)) (tyVal (L.ca K) t) = some false)) && ((List.range L.cl.length).all fun t => decide (PySem.W.kitOne K (.ref (L.ca K c)) (.ref (L.ca K t)) = some ((L.tb 0).sub c t)))) &&
  (L.mt.all fun p => He.eqO (PySem.W.findIn K (.ref (L.ca K p.1.1)) p.1.2) (some (some (.ref (L.fa K p.2)))) && (PySem.W.isFn K (.ref (L.fa K p.2)) && PySem.W.keepIn K (.ref (L.fa K p.2)))) &&
  (L.ini.all fun p => PySem.W.makesIn K (L.ca K p.1) && (He.eqO (PySem.W.findIn K (.ref (L.ca K p.1)) "__init__") (some (some (.ref (L.fa K p.2)))) && (PySem.W.isFn K (.ref (L.fa K p.2)) && PySem.W.keepIn K (.ref (L.ca K p.1))))) &&
  (L.fl.all fun p => He.eqO (PySem.W.findIn K (.ref (L.ca K p.1)) p.2) (some none)) &&
  (L.cl.all fun x => (He.Fa.glo x).ok K) && (L.fr.all fun x => (He.Fa.free x).ok K) &&
  (L.fn.all fun p => match p with
    | (n, none) => (He.Fa.glo n).ok K && PySem.W.keepIn K (.ref (He.ga K n))
    | _ => true) &&
  (L.gl.all fun p => glV K p.1 p.2) && (L.cl.all fun x => PySem.W.noSeq K (He.ga K x)) && (L.mt.all fun p => PySem.W.fnIn K (L.fa K p.2))
theorem fvs_rep {C : RC} : ∀ {ds : List D} {vs : List V}, fvs ds = some vs → ∀ ι M H, Reps C ι M H vs ds
  | [], _, h, ι, M, H => by cases h; exact .nil
  | d :: ds, vs, h, ι, M, H => by
    have h' : (match d.fv, fvs ds with
      | some v, some l => some (v :: l)
      | _, _ => none) = some vs := h
    cases hd : d.fv with
    | none => rw [hd] at h'; cases h'
    | some v =>
      cases hr : fvs ds with
      | none => rw [hd, hr] at h'; cases h'
      | some l =>
        rw [hd, hr] at h'
        cases h'
        refine .cons ?_ (fvs_rep hr ι M H)
        cases d <;> cases hd <;> constructor
theorem cB_ok {C : RC} {K : PySem.W.Frag} {d : D} {u : Value} (hK : C.K = K) (h : cB K d u = true) : ∃ v, RelV v u ∧ ∀ ι M H, Rep C ι M H v d := by
  unfold cB at h
  cases hv : d.fv with
  | some v =>
    rw [hv] at h
    refine ⟨v, He.relB_ok h, fun ι M H => ?_⟩
    cases d <;> cases hv <;> constructor
  | none =>
    rw [hv] at h
    cases d with
    | tup ds =>
      cases u with
      | ref a =>
        have h' : (match fvs ds, K.lookup a with
          | some vs, some ⟨.type c, none, .seq its _, _⟩ => decide (c = "tuple") && (decide (its.size ≤ sizeLine) && He.relAll vs its.toList)
          | _, _ => false) = true := h
        cases hf : fvs ds with
        | none => rw [hf] at h'; cases h'
        | some vs =>
          cases q : K.lookup a with
          | none => rw [hf, q] at h'; cases h'
          | some o =>
            obtain ⟨oc, od, dt, osl⟩ := o
            rw [hf, q] at h'
            cases oc with
            | type c =>
              cases od with
              | none =>
                cases dt with
                | seq its n =>
                  obtain ⟨h1, h2⟩ := He.ba (show (decide (c = "tuple") && (decide (its.size ≤ sizeLine) && He.relAll vs its.toList)) = true from h')
                  obtain ⟨h3, h4⟩ := He.ba h2
                  exact ⟨.ref a, rfl, fun ι M H => .tup (.inr ⟨_, its, n, by rw [hK]; exact q, rfl, congrArg Value.type (of_decide_eq_true h1), rfl, of_decide_eq_true h3, He.relAll_ok h4⟩) (fvs_rep hf ι M H)⟩
                | _ => cases h'
              | some _ => cases dt <;> cases h'
            | _ => cases od <;> cases dt <;> cases h'
      | _ => cases h
    | _ => cases u <;> cases h
theorem cBs_ok {C : RC} {K : PySem.W.Frag} (hK : C.K = K) : ∀ {ds : List (D × D)} {es : List DictEntry}, cBs K ds es = true → PySem.W.KeysLit C.w.params es →
    ∃ xs : List (Str × V), xs.map (·.1) = ds.map (fun p => keyS p.1) ∧ Paired (fun (p : Str × V) (e : DictEntry) => (∃ t, e.key = .str p.1 t) ∧ e.hash = hashStr C.w p.1 ∧ RelV p.2 e.val) xs es ∧ ∀ ι M H, RepGs C ι M H xs ds
  | [], [], _, _ => ⟨[], rfl, .nil, fun _ _ _ => .nil⟩
  | [], _ :: _, h, _ => by cases h
  | (k, d) :: r, es, h, l => by
    cases k <;> first | (cases h; done) | skip
    rename_i x
    cases es with
    | nil => cases h
    | cons e es =>
      have h' : ((match e.key with
        | .str y _ => decide (y = x)
        | _ => false) && (cB K d e.val && cBs K r es)) = true := h
      obtain ⟨h1, h2⟩ := He.ba h'
      obtain ⟨h3, h4⟩ := He.ba h2
      obtain ⟨⟨y, t, l1, l2⟩, l3⟩ := l
      obtain ⟨v, rv, rp⟩ := cB_ok hK h3
      obtain ⟨xs, e1, e2, e3⟩ := cBs_ok hK h4 l3
      rw [l1] at h1
      have e4 : y = x := of_decide_eq_true h1
      subst e4
      exact ⟨(y, v) :: xs, by simp only [List.map_cons, e1]; rfl, .cons ⟨⟨t, l1⟩, l2, rv⟩ e2, fun ι M H => .cons (rp ι M H) (e3 ι M H)⟩
theorem glB2_ok {C : RC} {K : PySem.W.Frag} {u : Value} {d : D} (hK : C.K = K) (h : glB2 K u d = true) (hd : ∀ a ds, d = .dct ds → u = .ref a → He.dicW K a = some (He.keysIn C.w.params (ds.map fun p => keyS p.1))) : ∃ v, RelV v u ∧ ∀ ι M H, Rep C ι M H v d := by
  cases d with
  | dct ds =>
    cases u with
    | ref a =>
      obtain ⟨es, n, kd⟩ := He.dicW_ok (hd a ds rfl rfl)
      have h' : (match K.lookup a with
        | some ⟨_, _, .dict es _, _⟩ => cBs K ds es.toList && (decide (ds.length ≤ sizeLine) && decide ((ds.map fun p => keyS p.1).Nodup))
        | _ => false) = true := h
      rw [kd.at_] at h'
      obtain ⟨h1, h2⟩ := He.ba (show (cBs K ds es.toList && (decide (ds.length ≤ sizeLine) && decide ((ds.map fun p => keyS p.1).Nodup))) = true from h')
      obtain ⟨h3, h4⟩ := He.ba h2
      obtain ⟨xs, e1, e2, e3⟩ := cBs_ok hK h1 kd.lit
      have hl : xs.length = ds.length := by have := congrArg List.length e1; simpa using this
      exact ⟨.ref a, rfl, fun ι M H => .dctG ⟨es, n, by rw [hK]; exact kd.at_, kd.low, by rw [hl]; exact of_decide_eq_true h3, by rw [e1]; exact of_decide_eq_true h4, e2⟩ (e3 ι M H)⟩
    | _ => cases h
  | _ => exact cB_ok hK (by cases u <;> exact h)
theorem norm_lt {L : LT} (h : 0 < L.cl.length) (c : Nat) : L.norm c < L.cl.length := by
  unfold LT.norm
  split
  · assumption
  · exact h
theorem norm_norm {L : LT} (h : 0 < L.cl.length) (c : Nat) : L.norm (L.norm c) = L.norm c := by
  have := norm_lt h c
  show (if L.norm c < L.cl.length then L.norm c else 0) = L.norm c
  rw [if_pos this]
theorem LT.txF {L : LT} {K : PySem.W.Frag} {P : Program} {w : World} {N : Nat} {h : Heap} {mg : Str → Option Value} {fdat : Nat → FuncData} (X : K.In h) (G : h.Ns mainGlobals mg) (ok : L.ok K = true) (ht : L.tabs K = L.tabV w) (hb : ∀ f, Binds K (fdat f) ((L.tx K fdat).fps f) [])
    (hbD : ∀ f n, n + ((L.tb N).dfl f n).length = ((L.tx K fdat).fps f).length → ∃ ds dvs, Binds K (fdat f) ((L.tx K fdat).fps f) ds ∧ Vals dvs ds ∧ ∀ ι M H, Reps ⟨P, w, K, L.ca K⟩ ι M H dvs ((L.tb N).dfl f n)) :
    TxF (L.tb N) (L.tx K fdat) ⟨P, w, K, L.ca K⟩ mg := by
  unfold LT.ok at ok
  simp only [Bool.and_eq_true, List.all_eq_true] at ok
  obtain ⟨⟨⟨⟨⟨⟨⟨⟨⟨⟨⟨⟨⟨o1, o2⟩, o3⟩, o4⟩, o5⟩, o6⟩, o7⟩, o8⟩, o9⟩, o10⟩, o11⟩, o12⟩, o13⟩, o14⟩ := ok
  have h0 : 0 < L.cl.length := of_decide_eq_true o1
  have mem : ∀ c, L.cl.getD (L.norm c) "" ∈ L.cl := fun c => by
    have := norm_lt h0 c
    rw [List.getD_eq_getElem?_getD, List.getElem?_eq_getElem this]
    exact List.getElem_mem this
  have can : ∀ c, L.ca K (L.norm c) = L.ca K c := fun c => by unfold LT.ca; rw [norm_norm h0]
  refine ⟨fun f n hn => ?_, fun c n hn => ?_, fun g n hn => ?_, fun n hn => ?_, fun c m f hm => ?_, fun c m f hm => ?_, fun c f hm => ?_, fun c f hm => ?_, fun c => ?_, ⟨fun n t hn => ?_, fun c t => ?_⟩, hb, hbD⟩
  · have hn' : (match L.fn[f]? with
      | some (n, none) => some n
      | _ => none) = some n := hn
    split at hn'
    · rename_i m hf
      cases hn'
      obtain ⟨a, b⟩ := He.ba (show ((He.Fa.glo n).ok K && PySem.W.keepIn K (.ref (He.ga K n))) = true from o11 _ (List.mem_of_getElem? hf))
      have e : L.fa K f = He.ga K n := by
        unfold LT.fa
        rw [List.getD_eq_getElem?_getD, hf]
        rfl
      show mg n = some (.ref (L.fa K f)) ∧ PySem.W.keepIn K (.ref (L.fa K f)) = true
      rw [e]
      exact ⟨He.glo_ok X G a, b⟩
    · cases hn'
  · have hc : L.cl[c]? = some n := hn
    have hlt : c < L.cl.length := by
      by_cases z : c < L.cl.length
      · exact z
      · rw [List.getElem?_eq_none (by omega)] at hc; cases hc
    have e : L.ca K c = He.ga K n := by
      unfold LT.ca LT.norm
      rw [if_pos hlt, List.getD_eq_getElem?_getD, hc]
      rfl
    show mg n = some (.ref (L.ca K c))
    rw [e]
    exact He.glo_ok X G (o9 _ (List.mem_of_getElem? hc))
  · have hg : (L.gl[g]?).map (·.1) = some n := hn
    obtain ⟨p, hp, rfl⟩ := Option.map_eq_some_iff.mp hg
    have a := o12 _ (List.mem_of_getElem? hp)
    have e : (L.tb N).glo g = p.2 := by
      show (L.gl.getD g ("", .non)).2 = p.2
      rw [List.getD_eq_getElem?_getD, hp]
      rfl
    rw [e]
    unfold glV at a
    cases q : PySem.W.nsIn K mainGlobals p.1 with
    | none => rw [q] at a; cases a
    | some o =>
      rw [q] at a
      cases o with
      | none => cases a
      | some u =>
        obtain ⟨v, r1, r2⟩ := glB2_ok (C := ⟨P, w, K, L.ca K⟩) rfl a fun a ds h1 h2 => by
          have hz := congrArg (fun l : List (Option (List (Option (Str × Int)))) => l[g]?) ht
          unfold LT.tabs LT.tabV at hz
          simp only [List.getElem?_map, hp, Option.map_some, h1] at hz
          have e2 : He.ga K p.1 = a := by
            unfold He.ga
            rw [q, h2]
          rw [← e2]
          exact Option.some.inj hz
        exact ⟨u, v, PySem.W.mg_of X G q, r1, r2⟩
  · have hf : L.fr.contains n = true := hn
    exact He.free_ok X G (o10 n (by simpa using hf))
  · have hm' : (L.mt.find? fun p => decide (p.1.1 = c ∧ p.1.2 = m)).map (·.2) = some f := hm
    obtain ⟨p, hp, rfl⟩ := Option.map_eq_some_iff.mp hm'
    have hq : decide (p.1.1 = c ∧ p.1.2 = m) = true := List.find?_some (p := fun p : (Nat × Str) × Nat => decide (p.1.1 = c ∧ p.1.2 = m)) hp
    obtain ⟨rfl, rfl⟩ := of_decide_eq_true hq
    obtain ⟨a, b, d⟩ := o6 _ (List.mem_of_find?_eq_some hp)
    exact ⟨He.eqO_ok a, b, d⟩
  · have hm' : (L.mt.find? fun p => decide (p.1.1 = c ∧ p.1.2 = m)).map (·.2) = some f := hm
    obtain ⟨p, hp, rfl⟩ := Option.map_eq_some_iff.mp hm'
    exact o14 _ (List.mem_of_find?_eq_some hp)
  · have hm' : (L.ini.find? fun p => decide (p.1 = c)).map (·.2) = some f := hm
    obtain ⟨p, hp, rfl⟩ := Option.map_eq_some_iff.mp hm'
    have hq : decide (p.1 = c) = true := List.find?_some (p := fun p : Nat × Nat => decide (p.1 = c)) hp
    have e := of_decide_eq_true hq
    subst e
    obtain ⟨a, b, d, e⟩ := o7 _ (List.mem_of_find?_eq_some hp)
    exact ⟨a, He.eqO_ok b, d, e⟩
  · have hm' : (L.fl.any fun p => decide (p.1 = c ∧ p.2 = f)) = true := hm
    obtain ⟨p, hp, e⟩ := List.any_eq_true.mp hm'
    obtain ⟨rfl, rfl⟩ := of_decide_eq_true e
    exact He.eqO_ok (o8 _ hp)
  · obtain ⟨a, b, d⟩ := o2 _ (mem c)
    exact ⟨o13 _ (mem c), He.cls_ok a, He.eqO_ok b, He.eqO_ok o3.1, of_decide_eq_true o3.2, of_decide_eq_true d⟩
  · obtain ⟨a, b⟩ := o4 n hn
    cases t with
    | cls t =>
      have e : bIs n (.cls t) = false := by
        have : n ∈ tyBases := hn
        simp only [tyBases, List.mem_cons, List.mem_nil_iff, or_false] at this
        rcases this with rfl | rfl | rfl | rfl | rfl | rfl <;> rfl
      rw [e]
      exact of_decide_eq_true (b _ (mem t))
    | _ => exact of_decide_eq_true (a _ (by simp [tyAll]))
  · obtain ⟨a, b⟩ := o5 (L.norm c) (List.mem_range.mpr (norm_lt h0 c))
    rw [can] at a b
    cases t with
    | cls t =>
      have q := of_decide_eq_true (b (L.norm t) (List.mem_range.mpr (norm_lt h0 t)))
      rw [can] at q
      have e : (L.tb 0).sub (L.norm c) (L.norm t) = (L.tb N).sub c t := by
        show (L.sb.getD (L.norm (L.norm c)) []).getD (L.norm (L.norm t)) false = (L.sb.getD (L.norm c) []).getD (L.norm t) false
        rw [norm_norm h0, norm_norm h0]
      rw [e] at q
      exact q
    | _ => exact of_decide_eq_true (a _ (by simp [tyAll]))
end MP

set_option maxRecDepth 100000
set_option maxHeartbeats 1000000
/-! MP27: the head: what is looked at when a law's top has run. -/
namespace MP
open PySem PySem.Spec PyProof.Rows L2

def dd (at_ : Str × Option Str) (name qual : Str) (st : Stmt) (dfl : List He.Dv := []) : He.DefD := ⟨at_, name, qual, defArgs st, defBody st, defScope st, dfl, []⟩
structure SupAt where
  at_ : Str × Option Str
  base : Str × Option Str
  C : Str
  d : SupD
abbrev FnS : Type := Option (Str × Str × Arguments × FuncBody × Scope × Addr × List Str × Value × Value × Option Addr × Addr)
def fnS (K : PySem.W.Frag) (p : Str × Option Str) : FnS := match K.lookup (He.fAd K p) with
  | some ⟨_, _, .func fd, _⟩ => some (fd.name, fd.qualname, fd.params, fd.body, fd.scope, fd.globals, fd.closure.map (·.1), fd.defaults, fd.kwdefaults, fd.annotations, fd.builtins)
  | _ => none
def SupAt.val (s : SupAt) : FnS := some (s.d.name, s.d.qual, s.d.params, .stmts s.d.body, s.d.scope, mainGlobals, ["__class__"], .none, .none, none, builtinsNs)
def ccOf (K : PySem.W.Frag) (p : Str × Option Str) : Addr := match K.lookup (He.fAd K p) with
  | some ⟨_, _, .func fd, _⟩ => (match fd.closure with
    | [(_, c)] => c
    | _ => 0)
  | _ => 0
def cdOf (K : PySem.W.Frag) (p : Str × Option Str) : Addr := match K.lookup (He.fAd K p) with
  | some ⟨_, _, .func fd, _⟩ => (match fd.code with
    | .ref c => c
    | _ => 0)
  | _ => 0
def codeB (K : PySem.W.Frag) (p : Str × Option Str) : Bool := match K.lookup (He.fAd K p) with
  | some ⟨_, _, .func fd, _⟩ => decide (fd.code = .ref (cdOf K p))
  | _ => false
def fileB (K : PySem.W.Frag) (P : Program) (a : Addr) : Bool := match K.lookup a with
  | some ⟨_, _, .fields vs, _⟩ => (match vs[2]? with
    | some (Value.str file _) => (P.main.file : Str) == file
    | _ => false)
  | _ => false
def cellB (K : PySem.W.Frag) (a D : Addr) : Bool := match K.lookup a with
  | some ⟨_, _, .cell (some (.ref b)), _⟩ => decide (b = D)
  | _ => false
def SupAt.ok (K : PySem.W.Frag) (P : Program) (s : SupAt) : Bool :=
  codeB K s.at_ && PySem.W.codeIn K (.ref (cdOf K s.at_)) s.d.qual && fileB K P (cdOf K s.at_) && cellB K (ccOf K s.at_) (He.ga K s.C) && (PySem.W.clsIn K (He.ga K s.C)).isSome && decide (PySem.W.mroIn K (He.ga K s.C) (.ref (He.ga K s.C)) = some true) &&
  He.eqO (PySem.W.ks_superIn K (He.ga K s.C) (He.ga K s.C) s.d.m) (some (some (.ref (He.fAd K s.base)))) && decide (PySem.W.typeIn K (.ref (He.fAd K s.base)) = some (.type "function")) && PySem.W.fnIn K (He.fAd K s.base) && He.eqO (PySem.W.nsIn K PySem.cStatics "thirdparty.any") (some none)
/-- a law: its table, its defs, its methods that only go on -/
structure LawD where
  P : Program
  L : LT
  fn : List (Nat × He.DefD)
  sup : List (Nat × SupAt)
abbrev Al : Type := Bool × List He.FnW × List FnS × List (Option (List (Option (Str × Int))))
def LawD.obsK (W : LawD) (K : PySem.W.Frag) : Al := ((W.fn.all fun d => d.2.ok K) && W.L.ok K && (W.sup.all fun s => s.2.ok K W.P), W.fn.map (fun d => He.fnW K d.2.at_), W.sup.map (fun s => fnS K s.2.at_), W.L.tabs K)
def LawD.valK (W : LawD) (w : World) : Al := (true, W.fn.map (fun d => d.2.val), W.sup.map (fun s => s.2.val), W.L.tabV w)
/-- what the named objects name, four deep; the module's own names once -/
def grow1 (g : Addr → Option Obj) (seen front : List Addr) : List Addr := ((front.flatMap fun a => match g a with
  | some o => He.refsD o
  | none => []).filter fun a => !seen.contains a).eraseDups
def LawD.names (W : LawD) : List Str := (W.L.cl ++ (W.fn.map fun d => d.2.at_.1) ++ (W.sup.map fun s => s.2.at_.1) ++ W.L.gl.map (·.1)).eraseDups
def LawD.roots (W : LawD) (g : Addr → Option Obj) : List Addr := W.names.flatMap fun x => match PySem.W.nsIn (He.frG g [mainGlobals]) mainGlobals x with
  | some (some (.ref a)) => [a]
  | _ => []
def LawD.at (W : LawD) (g : Addr → Option Obj) : List Addr :=
  let l0 := [PySem.cStatics, mainGlobals, builtinsNs]
  let l1 := W.roots g
  let l2 := grow1 g (l0 ++ l1) l1
  let l3 := grow1 g (l0 ++ l1 ++ l2) l2
  let l4 := grow1 g (l0 ++ l1 ++ l2 ++ l3) l3
  [PySem.cStatics, mainGlobals] ++ l1 ++ l2 ++ l3 ++ l4
def LawD.frK (W : LawD) (g : Addr → Option Obj) : PySem.W.Frag := He.frG g (W.at g)
def LawD.hk (W : LawD) : PySem.W.Hook where
  α := Al
  obs := fun s => W.obsK (W.frK s.heap.get?)
  val := fun w => W.valK w
  says := fun w h => ∃ K : PySem.W.Frag, K.In h ∧ W.obsK K = W.valK w
  of := fun _ _ e => ⟨_, He.frG_in, e⟩
  keeps := fun _ _ _ ⟨K, hK, c⟩ k => ⟨K, PySem.W.Frag.In.keeps hK k, c⟩
def LawD.ob (W : LawD) (s : PySem.W.SharedT) : Al := W.obsK (W.frK (HandSHeadRun.getT s))
theorem LawD.ob_eq (W : LawD) (s : PySem.W.SharedT) : W.ob s = W.hk.obs s.abs := by
  have e : HandSHeadRun.getT s = s.abs.heap.get? := funext (HandSHeadRun.getT_eq s)
  unfold LawD.ob
  rw [e]
  rfl
theorem supK_of {K : PySem.W.Frag} {P : Program} {s : SupAt} (e : fnS K s.at_ = s.val) (c : s.ok K P = true) (sc : NdefX.NScope [s.d.s, s.d.y, "__class__"] [s.d.s, s.d.y] ["__class__"] s.d.scope) (h1 : s.d.scope.names.lookup ("super" : Str) = some .globalImplicit)
    (h2 : ∃ ar, (s.d.params.posonlyargs ++ s.d.params.args).head? = some ar ∧ ar.arg = s.d.s) (h3 : (P.main.scope.names.lookup ("super" : Str)).isSome = false) (h4 : (s.d.m == ("__class__" : Str)) = false) (h5 : (s.d.ap.endLine == s.d.p3.line) = true) (h6 : (s.d.y == ("__debug__" : Str)) = false) :
    ∃ fd doc pm ctv, fd = (s.d.nf (ccOf K s.at_) (cdOf K s.at_)).fd doc pm ctv ∧ SupK P K s.d (He.fAd K s.at_) (He.fAd K s.base) (He.ga K s.C) (He.ga K s.C) (ccOf K s.at_) (cdOf K s.at_) fd := by
  unfold SupAt.ok at c
  simp only [Bool.and_eq_true] at c
  obtain ⟨⟨⟨⟨⟨⟨⟨⟨⟨c1, c2⟩, c3⟩, c4⟩, c5⟩, c6⟩, c7⟩, c8⟩, c9⟩, c10⟩ := c
  have e' := e
  unfold fnS at e'
  unfold codeB at c1
  cases q : K.lookup (He.fAd K s.at_) with
  | none => rw [q] at e'; cases e'
  | some o =>
    obtain ⟨oc, od, dt, osl⟩ := o
    rw [q] at e' c1
    cases dt with
    | func fd =>
      obtain ⟨n1, n2, n3, n4, n5, n6, n7, n8, n9, n10, n11, n12, n13, n14, n15⟩ := fd
      have e2 : (some (n1, n2, n3, n4, n5, n6, n7.map (·.1), n8, n9, n12, n15) : FnS) = some (s.d.name, s.d.qual, s.d.params, FuncBody.stmts s.d.body, s.d.scope, mainGlobals, [("__class__" : Str)], Value.none, Value.none, (none : Option Addr), builtinsNs) := e'
      simp only [Option.some.injEq, Prod.mk.injEq] at e2
      obtain ⟨z1, z2, z3, z4, z5, z6, z7, z8, z9, z10, z11⟩ := e2
      have hcode : n13 = .ref (cdOf K s.at_) := of_decide_eq_true c1
      have hcl : ∃ c, n7 = [(("__class__" : Str), c)] := by
        clear q c1 e'
        cases n7 with
        | nil => cases z7
        | cons p r =>
          cases r with
          | nil =>
            obtain ⟨x, c⟩ := p
            have ex : x = ("__class__" : Str) := by simpa using z7
            exact ⟨c, by rw [ex]⟩
          | cons _ _ => simp at z7
      obtain ⟨cc, hcl⟩ := hcl
      subst hcl
      have hcc : cc = ccOf K s.at_ := by unfold ccOf; rw [q]
      subst z1 z2 z3 z4 z5 z6 z8 z9 z10 z11
      subst hcc hcode
      refine ⟨_, n10, n11, n14, rfl, ⟨⟨oc, od, osl, n10, n11, n14, rfl, q⟩, c2, sc, h1, h2, ?_, ?_, Option.isSome_iff_exists.mp c5, of_decide_eq_true c6, h3, He.eqO_ok c7, of_decide_eq_true c8, c9, h4, He.eqO_ok c10, h5, h6⟩⟩
      · unfold fileB at c3
        cases q2 : K.lookup (cdOf K s.at_) with
        | none => rw [q2] at c3; cases c3
        | some o =>
          obtain ⟨c1', d1', dt', s1'⟩ := o
          rw [q2] at c3
          cases dt' with
          | fields vs =>
            have c3' : (match (vs[2]? : Option Value) with
              | some (Value.str file _) => (P.main.file : Str) == file
              | _ => false) = true := c3
            cases q3 : vs[2]? with
            | none => rw [q3] at c3'; cases c3'
            | some v =>
              rw [q3] at c3'
              cases v with
              | str file tf => exact ⟨_, _, vs, _, file, tf, rfl, q3, c3'⟩
              | _ => cases c3'
          | _ => cases c3
      · unfold cellB at c4
        cases q2 : K.lookup (ccOf K s.at_) with
        | none => rw [q2] at c4; cases c4
        | some o =>
          obtain ⟨c1', d1', dt', s1'⟩ := o
          rw [q2] at c4
          cases dt' with
          | cell v =>
            cases v with
            | none => cases c4
            | some v => cases v with
              | ref b =>
                have e3 : b = He.ga K s.C := of_decide_eq_true c4
                subst e3
                exact ⟨_, _, _, rfl⟩
              | _ => cases c4
          | _ => cases c4
    | _ => cases e'
/-- what the i-th def's function is -/
abbrev LawD.IsFn (W : LawD) (K : PySem.W.Frag) (i : Nat) (fd : FuncData) : Prop :=
  (∀ d : He.DefD, W.fn.lookup i = some d → FunD K d.name d.qual d.params d.body d.scope (d.dvs K) (d.kws K) (He.fAd K d.at_) fd) ∧
  (∀ s : SupAt, W.sup.lookup i = some s → NdefX.NScope [s.d.s, s.d.y, "__class__"] [s.d.s, s.d.y] ["__class__"] s.d.scope → (s.d.scope.names.lookup ("super" : Str) = some .globalImplicit ∧
    (∃ ar, (s.d.params.posonlyargs ++ s.d.params.args).head? = some ar ∧ ar.arg = s.d.s) ∧ (W.P.main.scope.names.lookup ("super" : Str)).isSome = false ∧ (s.d.m == ("__class__" : Str)) = false ∧ (s.d.ap.endLine == s.d.p3.line) = true ∧ (s.d.y == ("__debug__" : Str)) = false) →
    ∃ doc pm ctv, fd = (s.d.nf (ccOf K s.at_) (cdOf K s.at_)).fd doc pm ctv ∧ SupK W.P K s.d (He.fAd K s.at_) (He.fAd K s.base) (He.ga K s.C) (He.ga K s.C) (ccOf K s.at_) (cdOf K s.at_) fd)
theorem lookup_map {α β : Type} {f : α → β} : ∀ {l : List (Nat × α)} {i : Nat} {d : α}, l.lookup i = some d → (i, d) ∈ l
  | (j, e) :: l, i, d, h => by
    rw [List.lookup_cons] at h
    cases q : i == j with
    | true => rw [q] at h; cases h; rw [beq_iff_eq.mp q]; exact List.mem_cons_self
    | false => rw [q] at h; exact List.mem_cons_of_mem _ (lookup_map (f := f) h)
  | [], _, _, h => by cases h
theorem map_val {α β : Type} {f g : α → β} {l : List α} (h : l.map f = l.map g) {x : α} (m : x ∈ l) : f x = g x := by
  induction l with
  | nil => cases m
  | cons a l ih =>
    simp only [List.map_cons, List.cons.injEq] at h
    rcases List.mem_cons.mp m with rfl | m
    · exact h.1
    · exact ih h.2 m
theorem LawD.dat {W : LawD} {K : PySem.W.Frag} {w : World} (c : W.obsK K = W.valK w) (dis : ∀ i, W.fn.lookup i = none ∨ W.sup.lookup i = none) : W.L.ok K = true ∧ W.L.tabs K = W.L.tabV w ∧ ∃ dat : Nat → FuncData, ∀ i, W.IsFn K i (dat i) := by
  have c0 : ((W.fn.all fun d => d.2.ok K) && W.L.ok K && (W.sup.all fun s => s.2.ok K W.P)) = true := congrArg (·.1) c
  have cf : W.fn.map (fun d => He.fnW K d.2.at_) = W.fn.map (fun d => d.2.val) := congrArg (fun z : Al => z.2.1) c
  have cs : W.sup.map (fun s => fnS K s.2.at_) = W.sup.map (fun s => s.2.val) := congrArg (fun z : Al => z.2.2.1) c
  have ct : W.L.tabs K = W.L.tabV w := congrArg (fun z : Al => z.2.2.2) c
  obtain ⟨o1, o2, o3⟩ := and3 c0
  refine ⟨o2, ct, ?_⟩
  have ex : ∀ i, ∃ fd, W.IsFn K i fd := fun i => by
    cases h : W.fn.lookup i with
    | some d =>
      have m := lookup_map (f := id) h
      obtain ⟨fd, q⟩ := He.DefD.funD (map_val cf m) (List.all_eq_true.mp o1 _ m)
      refine ⟨fd, fun d' h' => by rw [h] at h'; cases h'; exact q, fun s h' => ?_⟩
      rcases dis i with z | z
      · rw [h] at z; cases z
      · rw [h'] at z; cases z
    | none =>
      cases h2 : W.sup.lookup i with
      | none => exact ⟨default, And.intro (fun _ z => by rw [h] at z; cases z) (fun _ z => by rw [h2] at z; cases z)⟩
      | some s =>
        have m := lookup_map (f := id) h2
        have e1 := map_val cs m
        have e2 := List.all_eq_true.mp o3 _ m
        by_cases sc : NdefX.NScope [s.d.s, s.d.y, "__class__"] [s.d.s, s.d.y] ["__class__"] s.d.scope
        · by_cases hz : (s.d.scope.names.lookup ("super" : Str) = some .globalImplicit ∧
            (∃ ar, (s.d.params.posonlyargs ++ s.d.params.args).head? = some ar ∧ ar.arg = s.d.s) ∧ (W.P.main.scope.names.lookup ("super" : Str)).isSome = false ∧ (s.d.m == ("__class__" : Str)) = false ∧ (s.d.ap.endLine == s.d.p3.line) = true ∧ (s.d.y == ("__debug__" : Str)) = false)
          · obtain ⟨fd, doc, pm, ctv, q1, q2⟩ := supK_of e1 e2 sc hz.1 hz.2.1 hz.2.2.1 hz.2.2.2.1 hz.2.2.2.2.1 hz.2.2.2.2.2
            exact ⟨fd, And.intro (fun _ z => by rw [h] at z; cases z) (fun s' z _ _ => by rw [h2] at z; cases z; exact ⟨doc, pm, ctv, q1, q2⟩)⟩
          · exact ⟨default, And.intro (fun _ z => by rw [h] at z; cases z) (fun s' z _ y => by rw [h2] at z; cases z; exact absurd y hz)⟩
        · exact ⟨default, And.intro (fun _ z => by rw [h] at z; cases z) (fun s' z y _ => by rw [h2] at z; cases z; exact absurd y sc)⟩
  exact ⟨fun i => Classical.choose (ex i), fun i => Classical.choose_spec (ex i)⟩
theorem bind0 {K : PySem.W.Frag} : Binds K default [] [] := Binds.all fun us hl => match us, hl with | [], _ => by first | rfl | kernel_rfl
end MP

set_option maxRecDepth 100000
set_option maxHeartbeats 1000000
/-! MP28: what a text computes with less of its defs known. -/
namespace MP
open PySem L2

def Le {α : Type} (a b : R α) : Prop := a = .no ∨ a = b
def LeO (a b : O) : Prop := a = .no ∨ a = b
section
variable {α β : Type} {a b : R α}
theorem Le.rfl' : Le a a := .inr rfl
theorem Le.no' : Le (.no : R α) b := .inl rfl
theorem LeO.rfl' {a : O} : LeO a a := .inr rfl
theorem Le.bind {f g : α → MH → R β} (h : Le a b) (hf : ∀ x h, Le (f x h) (g x h)) : Le (a.bind f) (b.bind g) := by
  rcases h with h | h
  · subst h; exact .inl rfl
  · subst h
    cases a with
    | ok x h => exact hf x h
    | ex c fs h => exact .inr rfl
    | no => exact .inl rfl
theorem Le.st {f g : α → MH → O} {e : Ev} (h : Le a b) (hf : ∀ x h, LeO (f x h) (g x h)) : LeO (a.st e f) (b.st e g) := by
  rcases h with h | h
  · subst h; exact .inl rfl
  · subst h
    cases a with
    | ok x h => exact hf x h
    | ex c fs h => exact .inr rfl
    | no => exact .inl rfl
theorem Le.opd {m : M} {a b : R D} {e : Ev} {h : MH} (q : Le a b) : Le (opd m a e h) (opd m b e h) := by
  cases m <;> first | exact .inr rfl | exact q.bind fun _ _ => .inr rfl
theorem Le.turns {f g : D → α → MH → R α} (hf : ∀ d acc h, Le (f d acc h) (g d acc h)) : ∀ (l : List D) (acc : α) (h : MH), Le (turns f l acc h) (turns g l acc h)
  | [], _, _ => .inr rfl
  | d :: r, acc, h => (hf d acc h).bind fun acc h => Le.turns hf r acc h
theorem LeO.loopF {f g : D → Ev → MH → O} (hf : ∀ d e h, LeO (f d e h) (g d e h)) : ∀ (l : List D) (e : Ev) (h : MH), LeO (loopF f l e h) (loopF g l e h)
  | [], _, _ => .inr rfl
  | d :: r, e, h => by
    have e1 : ∀ f : D → Ev → MH → O, MP.loopF f (d :: r) e h = (match f d e h with
      | .nx e h => MP.loopF f r e h
      | .ct e h => MP.loopF f r e h
      | .bk e h => .nx e h
      | o => o) := fun _ => rfl
    rw [e1, e1]
    rcases hf d e h with q | q
    · rw [q]; exact .inl rfl
    · rw [← q]
      cases f d e h with
      | nx e h => exact LeO.loopF hf r e h
      | ct e h => exact LeO.loopF hf r e h
      | _ => exact .inr rfl
theorem LeO.loopW {c c' : Ev → MH → R Bool} {f g : Ev → MH → O} (hc : ∀ e h, Le (c e h) (c' e h)) (hf : ∀ e h, LeO (f e h) (g e h)) : ∀ (n : Nat) (e : Ev) (h : MH), LeO (loopW c f n e h) (loopW c' g n e h)
  | 0, _, _ => .inr rfl
  | n + 1, e, h => by
    have e1 : ∀ (c : Ev → MH → R Bool) (f : Ev → MH → O), MP.loopW c f (n + 1) e h = (match c e h with
      | .ok true h => (match f e h with
        | .nx e h => MP.loopW c f n e h
        | .ct e h => MP.loopW c f n e h
        | .bk e h => .nx e h
        | o => o)
      | .ok false h => .nx e h
      | .ex c fs h => .ex c fs e h
      | .no => .no) := fun _ _ => rfl
    rw [e1, e1]
    rcases hc e h with q | q
    · rw [q]; exact .inl rfl
    · rw [← q]
      cases c e h with
      | ok t h' =>
        cases t with
        | false => exact .inr rfl
        | true =>
          show LeO (match f e h' with
            | .nx e h => MP.loopW c f n e h
            | .ct e h => MP.loopW c f n e h
            | .bk e h => .nx e h
            | o => o) (match g e h' with
            | .nx e h => MP.loopW c' g n e h
            | .ct e h => MP.loopW c' g n e h
            | .bk e h => .nx e h
            | o => o)
          rcases hf e h' with q | q
          · rw [q]; exact .inl rfl
          · rw [← q]
            cases f e h' with
            | nx e h => exact LeO.loopW hc hf n e h
            | ct e h => exact LeO.loopW hc hf n e h
            | _ => exact .inr rfl
      | _ => exact .inr rfl
end
section
variable {tb : Tb} {Φ Ψ : Nat → List D → MH → R D}
def LeΦ (Φ Ψ : Nat → List D → MH → R D) : Prop := ∀ f ds h, Le (Φ f ds h) (Ψ f ds h)
variable (q : LeΦ Φ Ψ)
include q
theorem ownR_le {c : Nat} {m : Str} {x : Od} {ds : List D} {h : MH} : Le (ownR tb Φ c m x ds h) (ownR tb Ψ c m x ds h) := by
  unfold ownR
  split
  · exact q _ _ _
  · exact .inr rfl
set_option maxHeartbeats 4000000 in
mutual
theorem ev_le : ∀ (m : M) (e : Ev) (h : MH), Le (ev tb Φ m e h) (ev tb Ψ m e h)
  | .var i, e, h => .inr rfl
  | .cst d, e, h => .inr rfl
  | .glo g, e, h => .inr rfl
  | .bin op a b, e, h => (ev_le a e h).opd.bind fun x h => (ev_le b e h).opd.bind fun y h => .inr rfl
  | .neg a, e, h => (ev_le a e h).bind fun x h => .inr rfl
  | .cmp op a b, e, h => (ev_le a e h).opd.bind fun x h => (ev_le b e h).opd.bind fun y h => .inr rfl
  | .chn op op' a b c, e, h => (ev_le a e h).opd.bind fun x h => (ev_le b e h).opd.bind fun y h => by
    try dsimp only
    split
    · split
      · exact (ev_le c e h).opd.bind fun z h => .inr rfl
      · exact .inr rfl
      · exact .inr rfl
    · exact .inr rfl
  | .andd a b, e, h => (ev_le a e h).bind fun x h => by
    try dsimp only
    split
    · exact ev_le b e h
    · exact .inr rfl
    · exact .inr rfl
  | .orr a b, e, h => (ev_le a e h).bind fun x h => by
    try dsimp only
    split
    · exact ev_le b e h
    · exact .inr rfl
    · exact .inr rfl
  | .nott a, e, h => (ev_le a e h).bind fun x h => .inr rfl
  | .tup l, e, h => (evs_le l e h).bind fun x h => .inr rfl
  | .lst l, e, h => (evs_le l e h).bind fun x h => .inr rfl
  | .dct l, e, h => evd_le l e [] h
  | .idx a b, e, h => (ev_le a e h).opd.bind fun x h => (ev_le b e h).bind fun y h => by
    try dsimp only
    split
    · exact ownR_le q
    · exact .inr rfl
    · exact .inr rfl
  | .slc a lo hi, e, h => (ev_le a e h).opd.bind fun x h => (evo_le lo e h).bind fun y h => (evo_le hi e h).bind fun z h => .inr rfl
  | .rev a, e, h => (ev_le a e h).opd.bind fun x h => .inr rfl
  | .att a f, e, h => (ev_le a e h).bind fun x h => .inr rfl
  | .call f l, e, h => (evs_le l e h).bind fun x h => q _ _ _
  | .mk c l, e, h => (evs_le l e h).bind fun x h => by
    try dsimp only
    split
    · exact (q _ _ _).bind fun _ _ => .inr rfl
    · exact .inr rfl
  | .mth o m l, e, h => (ev_le o e h).bind fun x h => by
    try dsimp only
    split
    · split
      · exact (evs_le l e h).bind fun _ _ => q _ _ _
      · exact .inr rfl
    · exact .inr rfl
  | .blt b l, e, h => (evOs_le l e h).bind fun x h => .inr rfl
  | .bm b o l, e, h => (ev_le o e h).opd.bind fun x h => by
    try dsimp only
    split
    · split
      · exact (evs_le l e h).bind fun _ _ => .inr rfl
      · exact .inr rfl
    · exact .inr rfl
  | .isi a t, e, h => (ev_le a e h).opd.bind fun x h => .inr rfl
  | .lrng g, e, h => (evI_le g e h).bind fun x h => .inr rfl
  | .lc ws elt p it cs, e, h => by
    unfold ev
    split
    · refine (evI_le it e h).bind fun ds h => (Le.turns (fun d acc h => ?_) ds [] h).bind fun _ _ => .inr rfl
      try dsimp only
      split
      · refine (evC_le cs _ h).bind fun b h => ?_
        try dsimp only
        split
        · exact (ev_le elt _ h).bind fun _ _ => .inr rfl
        · exact .inr rfl
      · exact .inr rfl
    · exact .inr rfl
  | .lc2 ws ws1 elt p it cs p1 it1 cs1, e, h => by
    unfold ev
    split
    · refine (evI_le it e h).bind fun ds h => (Le.turns (fun d acc h => ?_) ds [] h).bind fun _ _ => .inr rfl
      try dsimp only
      split
      · refine (evC_le cs _ h).bind fun b h => ?_
        try dsimp only
        split
        · refine (evI_le it1 _ h).bind fun ds1 h => Le.turns (fun d acc h => ?_) ds1 acc h
          try dsimp only
          split
          · refine (evC_le cs1 _ h).bind fun b h => ?_
            try dsimp only
            split
            · exact (ev_le elt _ h).bind fun _ _ => .inr rfl
            · exact .inr rfl
          · exact .inr rfl
        · exact .inr rfl
      · exact .inr rfl
    · exact .inr rfl
  | .dc ws k v p it cs, e, h => by
    unfold ev
    split
    · refine (evI_le it e h).bind fun ds h => (Le.turns (fun d acc h => ?_) ds [] h).bind fun _ _ => .inr rfl
      try dsimp only
      split
      · refine (evC_le cs _ h).bind fun b h => ?_
        try dsimp only
        split
        · exact (ev_le k _ h).bind fun _ h => (ev_le v _ h).bind fun _ _ => .inr rfl
        · exact .inr rfl
      · exact .inr rfl
    · exact .inr rfl
  | .srt _ _, e, h => .inr rfl
  | .slen _ _ _ _, e, h => .inr rfl
theorem evs_le : ∀ (l : Ms) (e : Ev) (h : MH), Le (evs tb Φ l e h) (evs tb Ψ l e h)
  | .nil, e, h => .inr rfl
  | .cons m l, e, h => (ev_le m e h).bind fun _ h => (evs_le l e h).bind fun _ _ => .inr rfl
theorem evOs_le : ∀ (l : Ms) (e : Ev) (h : MH), Le (evOs tb Φ l e h) (evOs tb Ψ l e h)
  | .nil, e, h => .inr rfl
  | .cons m l, e, h => (ev_le m e h).opd.bind fun _ h => (evOs_le l e h).bind fun _ _ => .inr rfl
theorem evd_le : ∀ (l : Kvs) (e : Ev) (acc : List (D × D)) (h : MH), Le (evd tb Φ l e acc h) (evd tb Ψ l e acc h)
  | .nil, e, acc, h => .inr rfl
  | .cons k v l, e, acc, h => (ev_le k e h).bind fun _ h => (ev_le v e h).bind fun _ h => by
    try dsimp only
    split
    · exact evd_le l e _ h
    · exact .inr rfl
theorem evo_le : ∀ (l : Mo) (e : Ev) (h : MH), Le (evo tb Φ l e h) (evo tb Ψ l e h)
  | .no, e, h => .inr rfl
  | .so m, e, h => (ev_le m e h).bind fun _ _ => .inr rfl
theorem evI_le : ∀ (l : It) (e : Ev) (h : MH), Le (evI tb Φ l e h) (evI tb Ψ l e h)
  | .val m, e, h => (ev_le m e h).opd.bind fun _ _ => .inr rfl
  | .rng a, e, h => (ev_le a e h).bind fun _ _ => .inr rfl
  | .rng2 a b, e, h => (ev_le a e h).bind fun _ h => (ev_le b e h).bind fun _ _ => .inr rfl
  | .enum m, e, h => (ev_le m e h).bind fun _ _ => .inr rfl
  | .zip a b, e, h => (ev_le a e h).bind fun _ h => (ev_le b e h).bind fun _ _ => .inr rfl
theorem evC_le : ∀ (l : Ts) (e : Ev) (h : MH), Le (evC tb Φ l e h) (evC tb Ψ l e h)
  | .nil, e, h => .inr rfl
  | .cons c l, e, h => (evT_le c e h).bind fun b h => by
    try dsimp only
    split
    · exact evC_le l e h
    · exact .inr rfl
theorem evT_le : ∀ (t : T) (e : Ev) (h : MH), Le (evT tb Φ t e h) (evT tb Ψ t e h)
  | .and a b, e, h => (evT_le a e h).bind fun x h => by
    try dsimp only
    split
    · exact evT_le b e h
    · exact .inr rfl
  | .or a b, e, h => (evT_le a e h).bind fun x h => by
    try dsimp only
    split
    · exact .inr rfl
    · exact evT_le b e h
  | .not a, e, h => (evT_le a e h).bind fun _ _ => .inr rfl
  | .v m, e, h => (ev_le m e h).opd.bind fun _ _ => .inr rfl
end
set_option maxHeartbeats 4000000 in
mutual
theorem exec_le : ∀ (s : S) (e : Ev) (h : MH), LeO (exec tb Φ s e h) (exec tb Ψ s e h)
  | .expr a, e, h => (ev_le q a e h).st fun _ _ => .inr rfl
  | .set i a, e, h => (ev_le q a e h).st fun _ _ => .inr rfl
  | .setN i a, e, h => (ev_le q a e h).st fun _ _ => .inr rfl
  | .unp is a, e, h => (ev_le q a e h).st fun _ _ => .inr rfl
  | .par i j a b, e, h => (ev_le q a e h).st fun _ h => (ev_le q b e h).st fun _ _ => .inr rfl
  | .put i k v, e, h => (ev_le q v e h).st fun _ h => (ev_le q k e h).st fun _ _ => .inr rfl
  | .putS o k v, e, h => (ev_le q v e h).st fun _ h => (ev_le q o e h).st fun _ h => (ev_le q k e h).st fun _ _ => .inr rfl
  | .satt o f v, e, h => (ev_le q v e h).st fun _ h => (ev_le q o e h).st fun _ _ => .inr rfl
  | .aug i op a, e, h => by
    unfold exec
    split
    · exact (ev_le q a e h).st fun _ _ => .inr rfl
    · exact .inr rfl
  | .iff c a b, e, h => (evT_le q c e h).st fun t h => by
    try dsimp only
    split
    · exact execs_le a e h
    · exact execs_le b e h
  | .whl c b, e, h => LeO.loopW (fun e h => evT_le q c e h) (fun e h => execs_le b e h) tb.N e h
  | .forr p it b, e, h => by
    unfold exec
    split
    · exact .inr rfl
    · refine (evI_le q it e h).st fun ds h => LeO.loopF (fun d e h => ?_) ds e h
      try dsimp only
      split
      · exact execs_le b _ h
      · exact .inr rfl
  | .ret a, e, h => (ev_le q a e h).st fun _ _ => .inr rfl
  | .retn, e, h => .inr rfl
  | .brk, e, h => .inr rfl
  | .cnt, e, h => .inr rfl
  | .pass, e, h => .inr rfl
  | .app i a, e, h => (ev_le q a e h).st fun _ _ => .inr rfl
  | .ext i a, e, h => by
    unfold exec
    split
    · exact (ev_le q a e h).st fun _ _ => .inr rfl
    · exact .inr rfl
  | .pop j i, e, h => .inr rfl
  | .never, e, h => .inr rfl
  | .frz i, e, h => .inr rfl
  | .wip is, e, h => .inr rfl
  | .retF a, e, h => (ev_le q a e h).st fun _ _ => .inr rfl
  | .retO i, e, h => .inr rfl
  | .sattN i f v, e, h => (ev_le q v e h).st fun _ _ => .inr rfl
  | .putO o k v, e, h => (ev_le q v e h).st fun _ h => (ev_le q o e h).st fun _ h => (ev_le q k e h).st fun _ h => by
    try dsimp only
    split
    · split
      · exact (q _ _ _).st fun _ _ => .inr rfl
      · exact .inr rfl
    · exact .inr rfl
  | .clr i, e, h => .inr rfl
theorem execs_le : ∀ (l : Ss) (e : Ev) (h : MH), LeO (execs tb Φ l e h) (execs tb Ψ l e h)
  | .nil, e, h => .inr rfl
  | .cons s l, e, h => by
    have e1 : ∀ Φ : Nat → List D → MH → R D, execs tb Φ (.cons s l) e h = (match exec tb Φ s e h with
      | .nx e h => execs tb Φ l e h
      | o => o) := fun _ => rfl
    rw [e1, e1]
    rcases exec_le s e h with z | z
    · rw [z]; exact .inl rfl
    · rw [← z]
      cases exec tb Φ s e h with
      | nx e h => exact execs_le l e h
      | _ => exact .inr rfl
end
theorem runB_le {fd : Fd} {ds : List D} {h : MH} : Le (runB tb Φ fd ds h) (runB tb Ψ fd ds h) := by
  unfold runB
  rcases execs_le q fd.body (startE fd.ns ds) h with z | z
  · rw [z]; exact .inl rfl
  · rw [← z]; exact .inr rfl
end
section
variable {tb : Tb} {F : Nat → Option Fd}
def supR (Φ : Nat → List D → MH → R D) (c g : Nat) (ds : List D) (h : MH) : R D := match ds with
  | x :: r => (match view x h with
    | some (.ins c' _) => if c' = c then Φ g (x :: r) h else .no
    | _ => .no)
  | [] => .no
/-- one level of calls -/
def call1 (tb : Tb) (F : Nat → Option Fd) (Φ : Nat → List D → MH → R D) (f : Nat) (ds : List D) (h : MH) : R D := match F f with
  | some fd => if ds.length = fd.np then (match fd.sup with
    | none => runB tb Φ fd ds h
    | some (c, g) => supR Φ c g ds h) else .no
  | none => .no
theorem callN_succ {k f : Nat} {ds : List D} {h : MH} : callN tb F (k + 1) f ds h = call1 tb F (callN tb F k) f ds h := by
  show (match F f with
    | some fd => if ds.length = fd.np then (match fd.sup with
      | none => runB tb (callN tb F k) fd ds h
      | some (c, g) => (match ds with
        | x :: r => (match view x h with
          | some (.ins c' _) => if c' = c then callN tb F k g (x :: r) h else .no
          | _ => .no)
        | [] => .no)) else .no
    | none => .no) = _
  unfold call1 supR
  rfl
theorem call1_le {Φ Ψ : Nat → List D → MH → R D} (q : LeΦ Φ Ψ) : LeΦ (call1 tb F Φ) (call1 tb F Ψ) := fun f ds h => by
  unfold call1
  split
  · split
    · split
      · exact runB_le q
      · unfold supR
        split
        · split
          · split
            · exact q _ _ _
            · exact .inr rfl
          · exact .inr rfl
        · exact .inr rfl
    · exact .inr rfl
  · exact .inr rfl
theorem callN_le1 : ∀ k, LeΦ (callN tb F k) (callN tb F (k + 1))
  | 0 => fun f ds h => .inl rfl
  | k + 1 => fun f ds h => by
    rw [callN_succ, callN_succ]
    exact call1_le (callN_le1 k) f ds h
theorem Le.trans {α : Type} {a b c : R α} (h : Le a b) (g : Le b c) : Le a c := by
  rcases h with h | h
  · exact .inl h
  · subst h; exact g
theorem callN_le {k j : Nat} (h : k ≤ j) : LeΦ (callN tb F k) (callN tb F j) := by
  induction h with
  | refl => exact fun _ _ _ => .inr rfl
  | step _ ih => exact fun f ds h => (ih f ds h).trans (callN_le1 _ f ds h)
theorem Le.ok {α : Type} {a b : R α} {x : α} {h : MH} (l : Le a b) (e : a = .ok x h) : b = .ok x h := by
  rcases l with l | l
  · rw [l] at e; cases e
  · rw [← l]; exact e
/-- calls with some defs taken at their word -/
def callS (tb : Tb) (F : Nat → Option Fd) (sp : Nat → Option (List D → MH → R D)) : Nat → Nat → List D → MH → R D
  | 0, f, ds, h => (match sp f with
    | some g => g ds h
    | none => .no)
  | k + 1, f, ds, h => (match sp f with
    | some g => g ds h
    | none => call1 tb F (callS tb F sp k) f ds h)
/-- their words hold -/
def SpOk (tb : Tb) (F : Nat → Option Fd) (sp : Nat → Option (List D → MH → R D)) (K : Nat) : Prop := ∀ f g, sp f = some g → ∀ ds h, Le (g ds h) (callN tb F K f ds h)
theorem callS_le {sp : Nat → Option (List D → MH → R D)} {K : Nat} (q : SpOk tb F sp K) : ∀ k, LeΦ (callS tb F sp k) (callN tb F (K + k))
  | 0 => fun f ds h => by
    show Le (match sp f with
      | some g => g ds h
      | none => .no) _
    cases z : sp f with
    | none => exact .inl rfl
    | some g => exact q f g z ds h
  | k + 1 => fun f ds h => by
    show Le (match sp f with
      | some g => g ds h
      | none => call1 tb F (callS tb F sp k) f ds h) _
    cases z : sp f with
    | none =>
      show Le _ (callN tb F (K + k + 1) f ds h)
      rw [callN_succ]
      exact call1_le (callS_le q k) f ds h
    | some g => exact (q f g z ds h).trans (callN_le (by omega) f ds h)
end
end MP

set_option maxRecDepth 100000
set_option maxHeartbeats 4000000
/-! MP29: loops; the draws that all laws share. -/
namespace MP
open PySem PySem.Spec PyProof.Rows L2
section
theorem loopF_inv {f : D → Ev → MH → O} : ∀ {ds : List D} {P : Nat → Ev → MH → Prop} {e : Ev} {h : MH}, (∀ i d e h, ds[i]? = some d → P i e h → ∃ e' h', f d e h = .nx e' h' ∧ P (i + 1) e' h') → P 0 e h → ∃ e' h', loopF f ds e h = .nx e' h' ∧ P ds.length e' h'
  | [], P, e, h, _, p => ⟨e, h, rfl, p⟩
  | d :: r, P, e, h, st, p => by
    obtain ⟨e1, h1, q1, p1⟩ := st 0 d e h rfl p
    obtain ⟨e2, h2, q2, p2⟩ := loopF_inv (ds := r) (P := fun i => P (i + 1)) (fun i d e h hd pi => st (i + 1) d e h (by simpa using hd) pi) p1
    refine ⟨e2, h2, ?_, p2⟩
    show (match f d e h with
      | .nx e h => loopF f r e h
      | .ct e h => loopF f r e h
      | .bk e h => .nx e h
      | o => o) = _
    rw [q1]
    exact q2
def ed (sc : D) (n : Int) (l : List D) (seed : Int) (s4 s5 s6 s7 s8 : Slot) : Ev := [.val sc, .val (.int n), .own (.lst l), .val (.int seed), s4, s5, s6, s7, s8]
/-- the three bodies -/
def b3 : Ss := (.cons (.set 7 (.bin .mod (.blt .int (.cons (.bin .add (.bin .add (.bin .add (.bin .mul (.var 6) (.cst (.int (48271)))) (.bin .mul (.var 5) (.cst (.int (69621))))) (.bin .mul (.var 4) (.cst (.int (7919))))) (.cst (.int (11)))) .nil)) (.cst (.int (2147483647))))) (.cons (.set 8 (.bin .mod (.blt .int (.cons (.bin .add (.bin .mul (.var 7) (.cst (.int (16807)))) (.bin .fdiv (.var 7) (.cst (.int (65536))))) .nil)) (.cst (.int (2147483629))))) (.cons (.app 2 (.bin .mod (.blt .int (.cons (.bin .fdiv (.var 8) (.cst (.int (7)))) .nil)) (.cst (.int (23328))))) .nil)))
def b60 : Ss := (.cons (.iff (.v (.cmp .gt (.var 6) (.cst (.int (0))))) (.cons (.app 2 (.bin .mod (.blt .int (.cons (.var 6) .nil)) (.cst (.int (23328))))) (.cons (.set 6 (.bin .fdiv (.var 6) (.cst (.int (23328))))) .nil)) .nil) .nil)
def bn : Ss := (.cons (.set 7 (.bin .mod (.blt .int (.cons (.bin .add (.bin .add (.bin .mul (.var 3) (.cst (.int (48271)))) (.bin .mul (.var 5) (.cst (.int (69621))))) (.cst (.int (5)))) .nil)) (.cst (.int (2147483647))))) (.cons (.set 8 (.bin .mod (.blt .int (.cons (.bin .add (.bin .mul (.var 7) (.cst (.int (16807)))) (.bin .fdiv (.var 7) (.cst (.int (65536))))) .nil)) (.cst (.int (2147483629))))) (.cons (.app 2 (.bin .mod (.blt .int (.cons (.bin .fdiv (.var 8) (.cst (.int (7)))) .nil)) (.cst (.int (23328))))) .nil)))
theorem mulR (i j : Int) (h : -18446744073709551616 < j ∧ j < 18446744073709551616) : binD .mul (.int i) (.int j) = some (.int (i * j)) := if_pos (.inr h)
variable {tb : Tb} {Φ : Nat → List D → MH → R D}
theorem x3 {sc : D} {n seed at_ k cell : Int} {l : List D} {s7 s8 : Slot} {h : MH} (hl : l.length < lim) :
    ∃ r : Int, ∃ s7' s8' : Slot, execs tb Φ b3 (ed sc n l seed (.val (.int at_)) (.val (.int k)) (.val (.int cell)) s7 s8) h = .nx (ed sc n (l ++ [.int (r % 23328)]) seed (.val (.int at_)) (.val (.int k)) (.val (.int cell)) s7' s8') h := by
  refine ⟨((((cell * 48271 + k * 69621 + at_ * 7919 + 11) % 2147483647) * 16807 + ((cell * 48271 + k * 69621 + at_ * 7919 + 11) % 2147483647) / 65536) % 2147483629) / 7, .val (.int ((cell * 48271 + k * 69621 + at_ * 7919 + 11) % 2147483647)), .val (.int ((((cell * 48271 + k * 69621 + at_ * 7919 + 11) % 2147483647) * 16807 + ((cell * 48271 + k * 69621 + at_ * 7919 + 11) % 2147483647) / 65536) % 2147483629)), ?_⟩
  simp [b3, ed, MP.execs, MP.exec, ev, evs, evOs, opd, vo, vos, view, R.bind, R.of, R.st, bltD, binD, hl]
theorem xn {sc : D} {n seed k : Int} {l : List D} {s4 s6 s7 s8 : Slot} {h : MH} (hl : l.length < lim) :
    ∃ r : Int, ∃ s7' s8' : Slot, execs tb Φ bn (ed sc n l seed s4 (.val (.int k)) s6 s7 s8) h = .nx (ed sc n (l ++ [.int (r % 23328)]) seed s4 (.val (.int k)) s6 s7' s8') h := by
  refine ⟨((((seed * 48271 + k * 69621 + 5) % 2147483647) * 16807 + ((seed * 48271 + k * 69621 + 5) % 2147483647) / 65536) % 2147483629) / 7, .val (.int ((seed * 48271 + k * 69621 + 5) % 2147483647)), .val (.int ((((seed * 48271 + k * 69621 + 5) % 2147483647) * 16807 + ((seed * 48271 + k * 69621 + 5) % 2147483647) / 65536) % 2147483629)), ?_⟩
  simp [bn, ed, MP.execs, MP.exec, ev, evs, evOs, opd, vo, vos, view, R.bind, R.of, R.st, bltD, binD, hl]
theorem x60 {sc : D} {n seed cell : Int} {l : List D} {s4 s5 s7 s8 : Slot} {h : MH} (hl : l.length < lim) :
    ∃ (l' : List D) (cell' : Int), execs tb Φ b60 (ed sc n l seed s4 s5 (.val (.int cell)) s7 s8) h = .nx (ed sc n l' seed s4 s5 (.val (.int cell')) s7 s8) h ∧ (l' = l ∨ ∃ r : Int, l' = l ++ [.int (r % 23328)]) := by
  by_cases hc : 0 < cell
  · refine ⟨l ++ [.int (cell % 23328)], cell / 23328, ?_, .inr ⟨cell, rfl⟩⟩
    simp [b60, ed, MP.execs, MP.exec, ev, evT, evs, evOs, opd, vo, vos, view, R.bind, R.of, R.st, bltD, binD, cmpD, truD, hl, hc]
  · refine ⟨l, cell, ?_, .inl rfl⟩
    simp [b60, ed, MP.execs, MP.exec, ev, evT, evs, evOs, opd, vo, vos, view, R.bind, R.of, R.st, bltD, binD, cmpD, truD, hl, hc]
def Dr (l : List D) : Prop := ∀ d ∈ l, ∃ i : Int, d = .int i ∧ 0 ≤ i ∧ i < 23328
theorem Dr.snoc {l : List D} (h : Dr l) (r : Int) : Dr (l ++ [.int (r % 23328)]) := fun d hd => by
  rcases List.mem_append.mp hd with z | z
  · exact h d z
  · have e : d = .int (r % 23328) := by simpa using z
    exact ⟨_, e, Int.emod_nonneg _ (by decide), Int.emod_lt_of_pos _ (by decide)⟩
def fF (tb : Tb) (Φ : Nat → List D → MH → R D) (i : Nat) (b : Ss) : D → Ev → MH → O := fun d e h => (match bindP (.nm i) d e with
  | some e => MP.execs tb Φ b e h
  | none => .no)
theorem rng_get {lo hi : Int} {i : Nat} {d : D} (h : (rngL lo hi)[i]? = some d) : d = .int (lo + i) := (rngL_get h).2
theorem l3 {sc : D} {n seed at_ cell : Int} {l : List D} {s5 s7 s8 : Slot} {h : MH} (hl : l.length + 3 < lim) (hd : Dr l) :
    ∃ l' s5' s7' s8', loopF (fF tb Φ 5 b3) (rngL 0 3) (ed sc n l seed (.val (.int at_)) s5 (.val (.int cell)) s7 s8) h = .nx (ed sc n l' seed (.val (.int at_)) s5' (.val (.int cell)) s7' s8') h ∧ Dr l' ∧ l'.length ≤ l.length + 3 := by
  obtain ⟨e', h', q, l', s5', s7', s8', rfl, rfl, h1, h2⟩ := loopF_inv (f := fF tb Φ 5 b3) (ds := rngL 0 3) (h := h) (P := fun i e h' => ∃ l' s5 s7 s8, e = ed sc n l' seed (.val (.int at_)) s5 (.val (.int cell)) s7 s8 ∧ h' = h ∧ Dr l' ∧ l'.length ≤ l.length + i) (e := ed sc n l seed (.val (.int at_)) s5 (.val (.int cell)) s7 s8) (fun i d e h' hg ⟨l', s5, s7, s8, he, hh, h1, h2⟩ => by
    subst he hh
    have hi : i < 3 := by have := (rngL_get hg).1; simpa using this
    obtain ⟨r, s7', s8', q⟩ := x3 (tb := tb) (Φ := Φ) (sc := sc) (n := n) (seed := seed) (at_ := at_) (k := 0 + (i : Int)) (cell := cell) (l := l') (s7 := s7) (s8 := s8) (h := h') (by omega)
    rw [rng_get hg]
    exact ⟨_, _, q, _, _, _, _, rfl, rfl, h1.snoc r, by rw [List.length_append]; show l'.length + 1 ≤ _; omega⟩) ⟨l, s5, s7, s8, rfl, rfl, hd, by omega⟩
  exact ⟨l', s5', s7', s8', q, h1, h2⟩
theorem l60 {sc : D} {n seed cell : Int} {l : List D} {s4 s5 s7 s8 : Slot} {h : MH} (hl : l.length + 60 < lim) (hd : Dr l) :
    ∃ l' s5' cell', loopF (fF tb Φ 5 b60) (rngL 0 60) (ed sc n l seed s4 s5 (.val (.int cell)) s7 s8) h = .nx (ed sc n l' seed s4 s5' (.val (.int cell')) s7 s8) h ∧ Dr l' ∧ l'.length ≤ l.length + 60 := by
  obtain ⟨e', h', q, l', s5', cell', rfl, rfl, h1, h2⟩ := loopF_inv (f := fF tb Φ 5 b60) (ds := rngL 0 60) (h := h) (P := fun i e h' => ∃ l' s5 cell, e = ed sc n l' seed s4 s5 (.val (.int cell)) s7 s8 ∧ h' = h ∧ Dr l' ∧ l'.length ≤ l.length + i) (e := ed sc n l seed s4 s5 (.val (.int cell)) s7 s8) (fun i d e h' hg ⟨l', s5, cell, he, hh, h1, h2⟩ => by
    subst he hh
    have hi : i < 60 := by have := (rngL_get hg).1; simpa using this
    obtain ⟨l2, cell', q, h3⟩ := x60 (tb := tb) (Φ := Φ) (sc := sc) (n := n) (seed := seed) (cell := cell) (l := l') (s4 := s4) (s5 := .val d) (s7 := s7) (s8 := s8) (h := h') (by omega)
    refine ⟨_, _, q, _, _, _, rfl, rfl, ?_, ?_⟩
    · rcases h3 with rfl | ⟨r, rfl⟩
      · exact h1
      · exact h1.snoc r
    · rcases h3 with rfl | ⟨r, rfl⟩
      · omega
      · rw [List.length_append]; show l'.length + 1 ≤ _; omega) ⟨l, s5, cell, rfl, rfl, hd, by omega⟩
  exact ⟨l', s5', cell', q, h1, h2⟩
theorem ln {sc : D} {n seed : Int} {l : List D} {s4 s5 s6 s7 s8 : Slot} {h : MH} (hl : l.length + n.toNat < lim) (hd : Dr l) :
    ∃ l' s5' s7' s8', loopF (fF tb Φ 5 bn) (rngL 0 n) (ed sc n l seed s4 s5 s6 s7 s8) h = .nx (ed sc n l' seed s4 s5' s6 s7' s8') h ∧ Dr l' ∧ l'.length = l.length + n.toNat := by
  obtain ⟨e', h', q, l', s5', s7', s8', rfl, rfl, h1, h2⟩ := loopF_inv (f := fF tb Φ 5 bn) (ds := rngL 0 n) (h := h) (P := fun i e h' => ∃ l' s5 s7 s8, e = ed sc n l' seed s4 s5 s6 s7 s8 ∧ h' = h ∧ Dr l' ∧ l'.length = l.length + i) (e := ed sc n l seed s4 s5 s6 s7 s8) (fun i d e h' hg ⟨l', s5, s7, s8, he, hh, h1, h2⟩ => by
    subst he hh
    have hi : i < n.toNat := by have := (rngL_get hg).1; simpa using this
    obtain ⟨r, s7', s8', q⟩ := xn (tb := tb) (Φ := Φ) (sc := sc) (n := n) (seed := seed) (k := 0 + (i : Int)) (l := l') (s4 := s4) (s6 := s6) (s7 := s7) (s8 := s8) (h := h') (by omega)
    rw [rng_get hg]
    exact ⟨_, _, q, _, _, _, _, rfl, rfl, h1.snoc r, by rw [List.length_append]; show l'.length + 1 = _; omega⟩) ⟨l, s5, s7, s8, rfl, rfl, hd, by omega⟩
  rw [rng_len, Int.sub_zero] at h2
  exact ⟨l', s5', s7', s8', q, h1, h2⟩
end
section
variable {tb : Tb} {Φ : Nat → List D → MH → R D}
theorem execs_nx {s : MP.S} {l : Ss} {e e' : Ev} {h h' : MH} (q : MP.exec tb Φ s e h = .nx e' h') : MP.execs tb Φ (.cons s l) e h = MP.execs tb Φ l e' h' := by
  show (match MP.exec tb Φ s e h with
    | .nx e h => MP.execs tb Φ l e h
    | o => o) = _
  rw [q]
theorem execs_one {s : MP.S} {e e' : Ev} {h h' : MH} (q : MP.exec tb Φ s e h = .nx e' h') : MP.execs tb Φ (.cons s .nil) e h = .nx e' h' := (execs_nx q).trans rfl
def sA : MP.S := .set 6 (.blt .abs (.cons (.idx (.var 0) (.var 4)) .nil))
def sB : MP.S := .set 3 (.bin .mod (.blt .int (.cons (.bin .add (.bin .mul (.var 3) (.cst (.int (31)))) (.bin .mod (.blt .int (.cons (.var 6) .nil)) (.cst (.int (1000003))))) .nil)) (.cst (.int (2147483647))))
def sC : MP.S := .iff (.v (.cmp .ge (.var 6) (.bin .pow (.cst (.int (10))) (.cst (.int (18)))))) (.cons (.forr (.nm 5) (.rng (.cst (.int (60)))) b60) .nil) (.cons (.forr (.nm 5) (.rng (.cst (.int (3)))) b3) .nil)
def bat : Ss := .cons sA (.cons sB (.cons sC .nil))
theorem xat {ns : List D} {n seed at_ x : Int} {l : List D} {s5 s6 s7 s8 : Slot} {h : MH} (ha : L2.atI ns at_ = some (.int x)) (hl : l.length + 60 < lim) (hd : Dr l) :
    ∃ l' seed' s5' s6' s7' s8', MP.execs tb Φ bat (ed (.scr ns) n l seed (.val (.int at_)) s5 s6 s7 s8) h = .nx (ed (.scr ns) n l' seed' (.val (.int at_)) s5' s6' s7' s8') h ∧ Dr l' ∧ l'.length ≤ l.length + 60 := by
  obtain ⟨cell, hA⟩ : ∃ cell : Int, MP.exec tb Φ sA (ed (.scr ns) n l seed (.val (.int at_)) s5 s6 s7 s8) h = .nx (ed (.scr ns) n l seed (.val (.int at_)) s5 (.val (.int cell)) s7 s8) h := by
    refine ⟨if x < 0 then -x else x, ?_⟩
    simp [sA, ed, MP.exec, ev, evs, evOs, opd, vo, vos, view, R.bind, R.of, R.st, bltD, binD, idxD, ha]
  obtain ⟨seed', hB⟩ : ∃ seed' : Int, MP.exec tb Φ sB (ed (.scr ns) n l seed (.val (.int at_)) s5 (.val (.int cell)) s7 s8) h = .nx (ed (.scr ns) n l seed' (.val (.int at_)) s5 (.val (.int cell)) s7 s8) h := by
    refine ⟨(seed * 31 + cell % 1000003) % 2147483647, ?_⟩
    simp [sB, ed, MP.exec, ev, evs, evOs, opd, vo, vos, view, R.bind, R.of, R.st, bltD, binD]
  have hT : evT tb Φ (.v (.cmp .ge (.var 6) (.bin .pow (.cst (.int (10))) (.cst (.int (18)))))) (ed (.scr ns) n l seed' (.val (.int at_)) s5 (.val (.int cell)) s7 s8) h = .ok (decide (1000000000000000000 ≤ cell)) h := by
    simp [ed, evT, ev, evs, evOs, opd, vo, vos, view, R.bind, R.of, R.st, bltD, binD, cmpD, truD]
  have hC : MP.exec tb Φ sC (ed (.scr ns) n l seed' (.val (.int at_)) s5 (.val (.int cell)) s7 s8) h = if decide (1000000000000000000 ≤ cell) = true then
      MP.execs tb Φ (.cons (.forr (.nm 5) (.rng (.cst (.int (60)))) b60) .nil) (ed (.scr ns) n l seed' (.val (.int at_)) s5 (.val (.int cell)) s7 s8) h else
      MP.execs tb Φ (.cons (.forr (.nm 5) (.rng (.cst (.int (3)))) b3) .nil) (ed (.scr ns) n l seed' (.val (.int at_)) s5 (.val (.int cell)) s7 s8) h := by
    simp only [sC, MP.exec, hT, R.st]
  by_cases hc : decide (1000000000000000000 ≤ cell) = true
  · obtain ⟨l', s5', cell', q, h1, h2⟩ := l60 (tb := tb) (Φ := Φ) (sc := .scr ns) (n := n) (seed := seed') (cell := cell) (l := l) (s4 := .val (.int at_)) (s5 := s5) (s7 := s7) (s8 := s8) (h := h) hl hd
    refine ⟨l', seed', s5', .val (.int cell'), s7, s8, ?_, h1, h2⟩
    show MP.execs tb Φ (.cons sA (.cons sB (.cons sC .nil))) _ h = _
    rw [execs_nx hA, execs_nx hB]
    refine execs_one ?_
    rw [hC, if_pos hc]
    exact execs_one (show MP.exec tb Φ (.forr (.nm 5) (.rng (.cst (.int (60)))) b60) _ h = _ from q)
  · obtain ⟨l', s5', s7', s8', q, h1, h2⟩ := l3 (tb := tb) (Φ := Φ) (sc := .scr ns) (n := n) (seed := seed') (at_ := at_) (cell := cell) (l := l) (s5 := s5) (s7 := s7) (s8 := s8) (h := h) (by omega) hd
    refine ⟨l', seed', s5', .val (.int cell), s7', s8', ?_, h1, by omega⟩
    show MP.execs tb Φ (.cons sA (.cons sB (.cons sC .nil))) _ h = _
    rw [execs_nx hA, execs_nx hB]
    refine execs_one ?_
    rw [hC, if_neg hc]
    exact execs_one (show MP.exec tb Φ (.forr (.nm 5) (.rng (.cst (.int (3)))) b3) _ h = _ from q)
theorem lat {ns : List Int} {n seed : Int} {l : List D} {s4 s5 s6 s7 s8 : Slot} {h : MH} (hl : l.length + 60 * ns.length < lim) (hd : Dr l) :
    ∃ l' seed' s4' s5' s6' s7' s8', loopF (fF tb Φ 4 bat) (rngL 0 ns.length) (ed (.scr (ns.map D.int)) n l seed s4 s5 s6 s7 s8) h = .nx (ed (.scr (ns.map D.int)) n l' seed' s4' s5' s6' s7' s8') h ∧ Dr l' ∧ l'.length ≤ l.length + 60 * ns.length := by
  obtain ⟨e', h', q, l', seed', s4', s5', s6', s7', s8', rfl, rfl, h1, h2⟩ := loopF_inv (f := fF tb Φ 4 bat) (ds := rngL 0 ns.length) (h := h) (P := fun i e h' => ∃ l' seed s4 s5 s6 s7 s8, e = ed (.scr (ns.map D.int)) n l' seed s4 s5 s6 s7 s8 ∧ h' = h ∧ Dr l' ∧ l'.length ≤ l.length + 60 * i) (e := ed (.scr (ns.map D.int)) n l seed s4 s5 s6 s7 s8) (fun i d e h' hg ⟨l', seed, s4, s5, s6, s7, s8, he, hh, h1, h2⟩ => by
    subst he hh
    have hi : i < ns.length := by have := (rngL_get hg).1; simpa using this
    have ha : L2.atI (ns.map D.int) (0 + (i : Int)) = some (.int ns[i]) := by
      unfold L2.atI L2.ixN
      rw [List.length_map, if_pos (by omega), if_pos (by omega)]
      simp [List.getElem?_eq_getElem hi]
    obtain ⟨l2, seed2, t5, t6, t7, t8, q, h3, h4⟩ := xat (tb := tb) (Φ := Φ) (ns := ns.map D.int) (n := n) (seed := seed) (at_ := 0 + (i : Int)) (x := ns[i]) (l := l') (s5 := s5) (s6 := s6) (s7 := s7) (s8 := s8) (h := h') ha (by omega) h1
    rw [rng_get hg]
    exact ⟨_, _, q, _, _, _, _, _, _, _, rfl, rfl, h3, by omega⟩) ⟨l, seed, s4, s5, s6, s7, s8, rfl, rfl, hd, by omega⟩
  rw [rng_len] at h2
  exact ⟨l', seed', s4', s5', s6', s7', s8', q, h1, by omega⟩
theorem ex_for {i : Nat} {a : M} {b : Ss} {j : Int} {e : Ev} {h : MH} (hr : rngOk j = true) (hv : ev tb Φ a e h = .ok (.int j) h) : MP.exec tb Φ (.forr (.nm i) (.rng a) b) e h = loopF (fF tb Φ i b) (rngL 0 j) e h := by
  simp only [MP.exec, ownIt, evI, hv, R.bind, R.st, hr, if_true]
  rfl
theorem ex_ret {a : M} {l : Ss} {d : D} {e : Ev} {h h' : MH} (hv : ev tb Φ a e h = .ok d h') : MP.execs tb Φ (.cons (.ret a) l) e h = .rt d h' := by
  simp only [MP.execs, MP.exec, hv, R.st]
theorem rng_ok {j : Int} (h0 : 0 ≤ j) (h1 : j < 4611686018427387904) : rngOk j = true := decide_eq_true ⟨by omega, h1⟩
/-- the shared draws: n whole numbers below 23328 -/
def fdraws : Fd := ⟨2, 9, .cons (.setN 2 (.lst .nil)) (.cons (.set 3 (.bin .add (.cst (.int (17))) (.blt .len (.cons (.var 0) .nil)))) (.cons (.forr (.nm 4) (.rng (.blt .len (.cons (.var 0) .nil))) bat) (.cons (.forr (.nm 5) (.rng (.var 1)) bn) (.cons (.ret (.slc (.var 2) .no (.so (.var 1)))) .nil)))), none, false⟩

end
section
variable {tb : Tb} {Φ : Nat → List D → MH → R D}
theorem dr1 {sc : D} {n : Int} {h : MH} : MP.exec tb Φ (.setN 2 (.lst .nil)) [.val sc, .val (.int n), .no, .no, .no, .no, .no, .no, .no] h = .nx [.val sc, .val (.int n), .own (.lst []), .no, .no, .no, .no, .no, .no] h := by
  simp [MP.exec, ev, evs, R.bind, R.st, freshD, lim]
theorem dr2 {ns : List D} {n : Int} {h : MH} : MP.exec tb Φ (.set 3 (.bin .add (.cst (.int (17))) (.blt .len (.cons (.var 0) .nil)))) [.val (.scr ns), .val (.int n), .own (.lst []), .no, .no, .no, .no, .no, .no] h = .nx (ed (.scr ns) n [] (17 + (ns.length : Int)) .no .no .no .no .no) h := by
  simp [ed, MP.exec, ev, evs, evOs, opd, vo, vos, view, R.bind, R.of, R.st, bltD, binD]
theorem dr3 {ns : List D} {e : Ev} {h : MH} : ev tb Φ (.blt .len (.cons (.var 0) .nil)) (.val (.scr ns) :: e) h = .ok (.int ns.length) h := by
  simp [ev, evs, evOs, opd, vo, vos, view, R.bind, R.of, bltD]
theorem dr4 {sc : D} {n seed : Int} {l : List D} {s4 s5 s6 s7 s8 : Slot} {h : MH} : ev tb Φ (.slc (.var 2) .no (.so (.var 1))) (ed sc n l seed s4 s5 s6 s7 s8) h = .ok (.lst (cutL l none (some n))) h := by
  simp [ed, ev, evo, opd, vo, vos, view, R.bind, R.of, slcD]
theorem callN_of {F : Nat → Option Fd} {f k : Nat} {fd : Fd} {ds : List D} {h : MH} {r : R D} (hF : F f = some fd) (hn : ds.length = fd.np) (hs : fd.sup = none) (e : runB tb (callN tb F k) fd ds h = r) : callN tb F (k + 1) f ds h = r := by
  unfold callN
  rw [hF]
  simp only [hn, hs, if_true]
  exact e
theorem dr5 {sc : D} {n seed : Int} {l : List D} {s4 s5 s6 s7 s8 : Slot} {h : MH} : ev tb Φ (.var 1) (ed sc n l seed s4 s5 s6 s7 s8) h = .ok (.int n) h := by simp [ed, ev]
def bd4 : Ss := .cons (.forr (.nm 5) (.rng (.var 1)) bn) (.cons (.ret (.slc (.var 2) .no (.so (.var 1)))) .nil)
def bd3 : Ss := .cons (.forr (.nm 4) (.rng (.blt .len (.cons (.var 0) .nil))) bat) bd4
def bd2 : Ss := .cons (.set 3 (.bin .add (.cst (.int (17))) (.blt .len (.cons (.var 0) .nil)))) bd3
def bd1 : Ss := .cons (.setN 2 (.lst .nil)) bd2
section
variable {F : Nat → Option Fd} {f k : Nat} {ns : List D} {n : Int} {h : MH} {l1 l2 : List D} {seed1 : Int} {a4 a5 a6 a7 a8 b5 b7 b8 : Slot}
theorem s4 (r2 : rngOk n = true) (q2 : loopF (fF tb Φ 5 bn) (rngL 0 n) (ed (.scr ns) n l1 seed1 a4 a5 a6 a7 a8) h = .nx (ed (.scr ns) n l2 seed1 a4 b5 a6 b7 b8) h) : MP.execs tb Φ bd4 (ed (.scr ns) n l1 seed1 a4 a5 a6 a7 a8) h = .rt (.lst (cutL l2 none (some n))) h := (execs_nx ((ex_for r2 dr5).trans q2)).trans (ex_ret dr4)
theorem s3 (r1 : rngOk (ns.length : Int) = true) (q1 : loopF (fF tb Φ 4 bat) (rngL 0 ns.length) (ed (.scr ns) n [] (17 + (ns.length : Int)) .no .no .no .no .no) h = .nx (ed (.scr ns) n l1 seed1 a4 a5 a6 a7 a8) h) : MP.execs tb Φ bd3 (ed (.scr ns) n [] (17 + (ns.length : Int)) .no .no .no .no .no) h = MP.execs tb Φ bd4 (ed (.scr ns) n l1 seed1 a4 a5 a6 a7 a8) h := execs_nx ((ex_for r1 dr3).trans q1)
theorem s2 : MP.execs tb Φ bd2 [.val (.scr ns), .val (.int n), .own (.lst []), .no, .no, .no, .no, .no, .no] h = MP.execs tb Φ bd3 (ed (.scr ns) n [] (17 + (ns.length : Int)) .no .no .no .no .no) h := execs_nx dr2
theorem s1 : MP.execs tb Φ bd1 [.val (.scr ns), .val (.int n), .no, .no, .no, .no, .no, .no, .no] h = MP.execs tb Φ bd2 [.val (.scr ns), .val (.int n), .own (.lst []), .no, .no, .no, .no, .no, .no] h := execs_nx dr1
theorem run_of {fd : Fd} {ds : List D} {d : D} {b : Ss} {e : Ev} {h' : MH} (h1 : fd.body = b) (h2 : startE fd.ns ds = e) (hf : fd.fr = false) (h3 : MP.execs tb Φ b e h = .rt d h') : runB tb Φ fd ds h = .ok d h' := by
  unfold runB
  rw [h1, h2, h3, hf]
  rfl
theorem st_dr : startE fdraws.ns [D.scr ns, .int n] = [.val (.scr ns), .val (.int n), .no, .no, .no, .no, .no, .no, .no] := rfl
theorem bd_dr : fdraws.body = bd1 := rfl
theorem np_dr : [D.scr ns, D.int n].length = fdraws.np := rfl
theorem su_dr : fdraws.sup = none := rfl
theorem draws_run (hF : F f = some fdraws) (r1 : rngOk (ns.length : Int) = true) (r2 : rngOk n = true)
    (q1 : loopF (fF tb (callN tb F k) 4 bat) (rngL 0 ns.length) (ed (.scr ns) n [] (17 + (ns.length : Int)) .no .no .no .no .no) h = .nx (ed (.scr ns) n l1 seed1 a4 a5 a6 a7 a8) h)
    (q2 : loopF (fF tb (callN tb F k) 5 bn) (rngL 0 n) (ed (.scr ns) n l1 seed1 a4 a5 a6 a7 a8) h = .nx (ed (.scr ns) n l2 seed1 a4 b5 a6 b7 b8) h) : callN tb F (k + 1) f [.scr ns, .int n] h = .ok (.lst (cutL l2 none (some n))) h :=
  callN_of hF np_dr su_dr (run_of bd_dr st_dr rfl (s1.trans (s2.trans ((s3 r1 q1).trans (s4 r2 q2)))))
end
theorem draws_ok {F : Nat → Option Fd} {f k : Nat} (hF : F f = some fdraws) (ns : List Int) (n : Nat) (h : MH) (h1 : ns.length ≤ 63) (h2 : n ≤ 100000) :
    ∃ l : List D, callN tb F (k + 1) f [.scr (ns.map D.int), .int n] h = .ok (.lst l) h ∧ Dr l ∧ l.length = n := by
  have hlim : lim = 10000000 := rfl
  obtain ⟨l1, seed1, a4, a5, a6, a7, a8, q1, d1, z1⟩ := lat (tb := tb) (Φ := callN tb F k) (ns := ns) (n := (n : Int)) (seed := 17 + (ns.length : Int)) (l := []) (s4 := .no) (s5 := .no) (s6 := .no) (s7 := .no) (s8 := .no) (h := h) (by simp; omega) (fun d hd => by cases hd)
  simp only [List.length_nil, Nat.zero_add] at z1
  obtain ⟨l2, b5, b7, b8, q2, d2, z2⟩ := ln (tb := tb) (Φ := callN tb F k) (sc := .scr (ns.map D.int)) (n := (n : Int)) (seed := seed1) (l := l1) (s4 := a4) (s5 := a5) (s6 := a6) (s7 := a7) (s8 := a8) (h := h) (by rw [Int.toNat_natCast]; omega) d1
  rw [Int.toNat_natCast] at z2
  refine ⟨cutL l2 none (some (n : Int)), ?_, ?_, ?_⟩
  · exact draws_run hF (by rw [List.length_map]; exact rng_ok (by omega) (by omega)) (rng_ok (by omega) (by omega)) (by rw [List.length_map]; exact q1) q2
  · intro d hd
    unfold cutL at hd
    exact d2 d (List.drop_subset _ _ (List.take_subset _ _ hd))
  · unfold cutL
    rw [HT.sIx_none, HT.sIx_nat]
    rw [List.length_take, List.length_drop]
    omega
end
end MP

set_option maxRecDepth 100000
set_option maxHeartbeats 1000000
/-! MP30: a law's end; steps by hand. -/
namespace MP
open PySem PySem.Spec PyProof.Rows L2

theorem law_end {P : Program} {w : World} {K : PySem.W.Frag} {h : Heap} {mg : Str → Option Value} {fa : Addr} {fdat : Nat → FuncData} {L : LT} {F : Nat → Option Fd} {N k : Nat} (KX : K.In h) (G : h.Ns mainGlobals mg) (hmg : mg ("law" : Str) = some (.ref fa))
    (hb : ∀ (s : Shared) (v : Value), BindsTo s (fdat 0) ⟨[v], []⟩ [("_law_script", v)]) (T0 : ∀ base : Heap, Txt (L.tb N) (L.tx K fdat) F P w K mg base) (hfn : L.fn[0]? = some (("law" : Str), (none : Option Str))) (hps : L.ps.getD 0 [] = [("_law_script" : Str)]) (hfr : L.frs.contains 0 = false)
    (ok : ∀ ns : List Int, ns.length ≤ 63 → ∃ h', callN (L.tb N) F k 0 [.scr (ns.map D.int)] [] = .ok (.bl true) h') :
    ∃ (K : PySem.W.Frag) (fd : FuncData) (sp : Sp), K.In h ∧ (∀ (s : Shared) (u : Value), BindsTo s fd ⟨[u], []⟩ [("_law_script", u)]) ∧
      (∀ (H : Hp) (a : Addr) (ns : List Int), ns.length ≤ 63 → Only H → SqL K H a (ns.map V.int) → sp [.ref a] H (fun v _ => v = .bl true) fun _ _ _ => False) ∧
      ∀ base : Heap, K.In base → base.Ns mainGlobals mg → FnOk P w K mg base cx0 (2 * k) fa fd ["_law_script"] sp := by
  have hfa : L.fa K 0 = fa := by
    have q2 : mg ("law" : Str) = some (.ref (L.fa K 0)) := ((T0 h).tx.fn 0 "law" (by
      show (match L.fn[0]? with
        | some (n, none) => some n
        | _ => none) = some ("law" : Str)
      rw [hfn])).1
    rw [hmg] at q2
    cases q2
    rfl
  refine ⟨K, fdat 0, spF ⟨P, w, K, L.ca K⟩ 1 false (callN (L.tb N) F k 0), KX, hb, fun H a ns hl _ hS => ?_, fun base hk hg => ?_⟩
  · obtain ⟨h', q⟩ := ok ns hl
    refine ⟨rfl, [], fun _ => False, [.scr (ns.map D.int)], [], .bl true, h', ⟨fun _ z => z.elim, (fun _ z => nomatch z), rfl, List.nodup_nil, (fun _ _ z => nomatch z)⟩, .cons (.scr (vs := ns.map V.int) ?_ ?_) .nil, q, fun ι' H' v _ rv _ => (by cases rv rfl; rfl)⟩
    · exact hS.elim (fun z => .inl ⟨fun z => z, z⟩) .inr
    · clear hl hS q
      induction ns with
      | nil => exact .nil
      | cons n r ih => exact .cons (.int n) ih
  · have q := fn_ok (T0 base) k 0
    have e : (L.tx K fdat).fa 0 = fa := hfa
    have e2 : (L.tx K fdat).fps 0 = [("_law_script" : Str)] := hps
    have e3 : (L.tx K fdat).frs 0 = false := hfr
    rw [e, e2, e3] at q
    exact q
end MP
namespace MP
open PySem L2
section
variable {tb : Tb} {Φ : Nat → List D → MH → R D} {F : Nat → Option Fd} {e e' : Ev} {h h' : MH}
theorem at_mem {S : List D} (h : 0 < S.length) (b : Int) : ∃ f, L2.atI S (b % (S.length : Int)) = some f ∧ f ∈ S := by
  have h0 : 0 ≤ b % (S.length : Int) := Int.emod_nonneg _ (by omega)
  have h1 : b % (S.length : Int) < S.length := Int.emod_lt_of_pos _ (by omega)
  have hlt : (b % (S.length : Int)).toNat < S.length := by omega
  refine ⟨S[(b % (S.length : Int)).toNat], ?_, List.getElem_mem hlt⟩
  unfold L2.atI L2.ixN
  rw [if_pos h0, if_pos h1]
  exact List.getElem?_eq_getElem hlt
theorem atI_nat {l : List D} {i : Nat} (hi : i < l.length) : L2.atI l (i : Int) = l[i]? := by
  unfold L2.atI L2.ixN
  rw [if_pos (by omega), if_pos (by omega)]
  simp
theorem Dr.get {l : List D} (h : Dr l) {i : Nat} (hi : i < l.length) : ∃ a : Int, l[i]? = some (.int a) ∧ 0 ≤ a ∧ a < 23328 := by
  obtain ⟨a, e, b⟩ := h l[i] (List.getElem_mem hi)
  exact ⟨a, by rw [List.getElem?_eq_getElem hi, e], b⟩
theorem loopF_cons {f : D → Ev → MH → O} {d : D} {r : List D} (q : f d e h = .nx e' h') : loopF f (d :: r) e h = loopF f r e' h' := by
  show (match f d e h with
    | .nx e h => loopF f r e h
    | .ct e h => loopF f r e h
    | .bk e h => .nx e h
    | o => o) = _
  rw [q]
theorem loop_all {f : D → Ev → MH → O} : ∀ {ds : List D}, (∀ d ∈ ds, f d e h = .nx e h) → loopF f ds e h = .nx e h
  | [], _ => rfl
  | d :: r, H => (loopF_cons (H d List.mem_cons_self)).trans (loop_all fun d m => H d (List.mem_cons_of_mem _ m))
theorem ex_forv {i : Nat} {m : M} {b : Ss} {x : Od} {ds : List D} (ho : ownIt e (.val m) = false) (hv : opd m (ev tb Φ m e h) e h = .ok x h) (hi : (vi e x).bind itemsD = some ds) : MP.exec tb Φ (.forr (.nm i) (.val m) b) e h = loopF (fF tb Φ i b) ds e h := by
  simp only [MP.exec, ho, evI, hv, R.bind, R.of, hi, R.st]
  rfl
theorem callN_ofF {f k : Nat} {fd : Fd} {ds : List D} {r : R D} (hF : F f = some fd) (hn : ds.length = fd.np) (hs : fd.sup = none) (q : runB tb (callN tb F k) fd ds h = r) : callN tb F (k + 1) f ds h = r := callN_of hF hn hs q
theorem run_ofF {fd : Fd} {ds : List D} {d : D} {b : Ss} (h1 : fd.body = b) (h2 : startE fd.ns ds = e) (hf : fd.fr = true) (h3 : MP.execs tb Φ b e h = .rtF d h') : runB tb Φ fd ds h = .ok d h' := by
  unfold runB
  rw [h1, h2, h3, hf]
  rfl
theorem run_ofN {fd : Fd} {ds : List D} {b : Ss} (h1 : fd.body = b) (h2 : startE fd.ns ds = e) (hf : fd.fr = false) (h3 : ∃ e', MP.execs tb Φ b e h = .nx e' h') : runB tb Φ fd ds h = .ok .non h' := by
  obtain ⟨e', h3⟩ := h3
  unfold runB
  rw [h1, h2, h3, hf]
  rfl
end
end MP
namespace MP
open PySem L2
section
variable {tb : Tb} {Φ : Nat → List D → MH → R D} {e e' : Ev} {h h' : MH}
/-- the test of an `if not ..: return False` -/
def okT (r : R D) : Bool := match r with
  | .ok (.bl true) [] => true
  | _ => false
theorem okT_ok {r : R D} (q : okT r = true) : r = .ok (.bl true) [] := by
  cases r with
  | ok d h => cases d <;> first | (cases q; done) | (rename_i b; cases b <;> cases h <;> first | (cases q; done) | rfl)
  | _ => cases q
theorem ex_iff {c : T} {a b : Ss} {t : Bool} (hc : evT tb Φ c e h = .ok t h') : MP.exec tb Φ (.iff c a b) e h = if t then MP.execs tb Φ a e h' else MP.execs tb Φ b e h' := by
  simp only [MP.exec, hc, R.st]
/-- a guard that lets pass -/
theorem ex_guard {m : M} {a : Ss} (hm : opd m (ev tb Φ m e h) e h = .ok (.d (.bl true)) h) : MP.exec tb Φ (.iff (.not (.v m)) a .nil) e h = .nx e h := by
  have hc : evT tb Φ (.not (.v m)) e h = .ok false h := by simp [evT, hm, R.bind, R.of, vo, view, truD]
  rw [ex_iff hc]
  rfl
theorem opd_call {f : Nat} {l : Ms} {d : D} (q : ev tb Φ (.call f l) e h = .ok d h') : opd (.call f l) (ev tb Φ (.call f l) e h) e h = .ok (.d d) h' := by
  rw [q]; rfl
theorem ex_for2 {i : Nat} {b : Ss} {x y : Int} (hr : (rngOk x && rngOk y) = true) : MP.exec tb Φ (.forr (.nm i) (.rng2 (.cst (.int x)) (.cst (.int y))) b) e h = loopF (fF tb Φ i b) (rngL x y) e h := by
  simp only [MP.exec, ownIt, evI, ev, R.bind, R.st, hr, if_true]
  rfl
theorem ex_forl {i : Nat} {l : Ms} {b : Ss} {ds : List D} (q : ev tb Φ (.lst l) e h = .ok (.lst ds) h) : MP.exec tb Φ (.forr (.nm i) (.val (.lst l)) b) e h = loopF (fF tb Φ i b) ds e h :=
  ex_forv (x := .d (.lst ds)) rfl (by rw [q]; rfl) rfl
theorem ex_forx {i j : Nat} {b : Ss} {ds : List D} (q : e[j]? = some (.val (.lst ds))) : MP.exec tb Φ (.forr (.nm i) (.val (.var j)) b) e h = loopF (fF tb Φ i b) ds e h :=
  ex_forv (x := .d (.lst ds)) (by simp [ownIt, q]) (by simp [opd, ev, q]) rfl
end
end MP
namespace MP
open PySem L2
/-- a loop that goes back at the first item that does not pass -/
theorem loop_find {α : Type} {f : D → Ev → MH → O} {g : α → D} {P : α → Bool} {d0 : D} {e : Ev} {h : MH} : ∀ {l : List α}, (∀ x ∈ l, P x = true → f (g x) e h = .nx e h) → (∀ x ∈ l, P x = false → f (g x) e h = .rt d0 h) → loopF f (l.map g) e h = if l.all P then .nx e h else .rt d0 h
  | [], _, _ => rfl
  | x :: r, H1, H2 => by
    show loopF f (g x :: r.map g) e h = _
    rw [List.all_cons]
    cases q : P x with
    | true =>
      rw [loopF_cons (H1 x List.mem_cons_self q), loop_find (fun y m => H1 y (List.mem_cons_of_mem _ m)) fun y m => H2 y (List.mem_cons_of_mem _ m)]
      rfl
    | false =>
      show (match f (g x) e h with
        | .nx e h => loopF f (r.map g) e h
        | .ct e h => loopF f (r.map g) e h
        | .bk e h => .nx e h
        | o => o) = _
      rw [H2 x List.mem_cons_self q]
      rfl
theorem execs_rt {tb : Tb} {Φ : Nat → List D → MH → R D} {s : MP.S} {l : Ss} {e : Ev} {h h' : MH} {d : D} (q : MP.exec tb Φ s e h = .rt d h') : MP.execs tb Φ (.cons s l) e h = .rt d h' := by
  show (match MP.exec tb Φ s e h with
    | .nx e h => MP.execs tb Φ l e h
    | o => o) = _
  rw [q]
end MP
namespace MP
open PySem L2
/-- a loop as a fold -/
theorem loop_fold {σ : Type} {f : D → Ev → MH → O} {E : σ → Ev} {g : σ → D → σ} {I : Nat → σ → Prop} {h : MH} : ∀ (l : List D) (i : Nat) (s : σ), (∀ d s j, d ∈ l → j < i + l.length → I j s → f d (E s) h = .nx (E (g s d)) h ∧ I (j + 1) (g s d)) → I i s → loopF f l (E s) h = .nx (E (l.foldl g s)) h ∧ I (i + l.length) (l.foldl g s)
  | [], _, _, _, q => ⟨rfl, q⟩
  | d :: r, i, s, H, q => by
    obtain ⟨q1, q2⟩ := H d s i List.mem_cons_self (by rw [List.length_cons]; omega) q
    obtain ⟨q3, q4⟩ := loop_fold (g := g) (I := I) r (i + 1) (g s d) (fun d s j m z => H d s j (List.mem_cons_of_mem _ m) (by rw [List.length_cons]; omega)) q2
    refine ⟨(loopF_cons q1).trans q3, ?_⟩
    rw [List.length_cons, show i + (r.length + 1) = i + 1 + r.length by omega]
    exact q4
end MP
namespace MP
open PySem L2
theorem loop_foldM {α σ : Type} {f : D → Ev → MH → O} {E : σ → Ev} {mk : α → D} {g : σ → α → σ} {I : Nat → σ → Prop} {h : MH} : ∀ (l : List α) (i : Nat) (s : σ), (∀ d s j, d ∈ l → j < i + l.length → I j s → f (mk d) (E s) h = .nx (E (g s d)) h ∧ I (j + 1) (g s d)) → I i s → loopF f (l.map mk) (E s) h = .nx (E (l.foldl g s)) h ∧ I (i + l.length) (l.foldl g s)
  | [], _, _, _, q => ⟨rfl, q⟩
  | d :: r, i, s, H, q => by
    obtain ⟨q1, q2⟩ := H d s i List.mem_cons_self (by rw [List.length_cons]; omega) q
    obtain ⟨q3, q4⟩ := loop_foldM (g := g) (I := I) r (i + 1) (g s d) (fun d s j m z => H d s j (List.mem_cons_of_mem _ m) (by rw [List.length_cons]; omega)) q2
    refine ⟨(loopF_cons q1).trans q3, ?_⟩
    rw [List.length_cons, show i + (r.length + 1) = i + 1 + r.length by omega]
    exact q4
theorem foldl_inv {α σ : Type} {g : σ → α → σ} {P : σ → Prop} : ∀ (l : List α) (s : σ), (∀ a ∈ l, ∀ s, P s → P (g s a)) → P s → P (l.foldl g s)
  | [], _, _, p => p
  | a :: r, s, H, p => foldl_inv r (g s a) (fun b m => H b (List.mem_cons_of_mem _ m)) (H a List.mem_cons_self s p)
end MP

set_option maxRecDepth 100000
set_option maxHeartbeats 0
namespace K07
open PySem PySem.Spec PyProof.Rows L2 MP
def s_any : Str := (⟨#[97, 110, 121]⟩ : PySem.Str)
def s_bad : Str := (⟨#[98, 97, 100]⟩ : PySem.Str)
def s__2b : Str := (⟨#[43]⟩ : PySem.Str)
def s__2d : Str := (⟨#[45]⟩ : PySem.Str)
def s__2a : Str := (⟨#[42]⟩ : PySem.Str)
def s__26 : Str := (⟨#[38]⟩ : PySem.Str)
def s__3d : Str := (⟨#[61]⟩ : PySem.Str)
def s__3c : Str := (⟨#[60]⟩ : PySem.Str)
def s__2b_21 : Str := (⟨#[43, 33]⟩ : PySem.Str)
def s__2d_21 : Str := (⟨#[45, 33]⟩ : PySem.Str)
def s_over : Str := (⟨#[111, 118, 101, 114]⟩ : PySem.Str)
def s_fresh : Str := (⟨#[102, 114, 101, 115, 104]⟩ : PySem.Str)
def s_table : Str := (⟨#[116, 97, 98, 108, 101]⟩ : PySem.Str)
def s_rank : Str := (⟨#[114, 97, 110, 107]⟩ : PySem.Str)
def s_choices : Str := (⟨#[99, 104, 111, 105, 99, 101, 115]⟩ : PySem.Str)
def s_choose : Str := (⟨#[99, 104, 111, 111, 115, 101]⟩ : PySem.Str)
def s_step : Str := (⟨#[115, 116, 101, 112]⟩ : PySem.Str)
def s_keep : Str := (⟨#[107, 101, 101, 112]⟩ : PySem.Str)
def s_select : Str := (⟨#[115, 101, 108, 101, 99, 116]⟩ : PySem.Str)
def s_merge : Str := (⟨#[109, 101, 114, 103, 101]⟩ : PySem.Str)
def s_store : Str := (⟨#[115, 116, 111, 114, 101]⟩ : PySem.Str)
def s_print : Str := (⟨#[112, 114, 105, 110, 116]⟩ : PySem.Str)
def s_test : Str := (⟨#[116, 101, 115, 116]⟩ : PySem.Str)
def s_idle : Str := (⟨#[105, 100, 108, 101]⟩ : PySem.Str)
def s_zero : Str := (⟨#[122, 101, 114, 111]⟩ : PySem.Str)
def s_wrap : Str := (⟨#[119, 114, 97, 112]⟩ : PySem.Str)
def s_once : Str := (⟨#[111, 110, 99, 101]⟩ : PySem.Str)
def s_wrong : Str := (⟨#[119, 114, 111, 110, 103]⟩ : PySem.Str)
def s_stay : Str := (⟨#[115, 116, 97, 121]⟩ : PySem.Str)
def s_standing : Str := (⟨#[115, 116, 97, 110, 100, 105, 110, 103]⟩ : PySem.Str)
def s__5f_5fgetitem_5f_5f : Str := (⟨#[95, 95, 103, 101, 116, 105, 116, 101, 109, 95, 95]⟩ : PySem.Str)
def s__5f_5fsetitem_5f_5f : Str := (⟨#[95, 95, 115, 101, 116, 105, 116, 101, 109, 95, 95]⟩ : PySem.Str)
def f0 : Fd := ⟨1, 10, (.cons (.set 1 (.call 1 (.cons (.var 0) (.cons (.cst (.int (14))) .nil)))) (.cons (.set 2 (.call 2 (.cons (.var 1) (.cons (.cst (.int (0))) .nil)))) (.cons (.set 3 (.idx (.lst (.cons (.cst (.int (1))) (.cons (.cst (.int (2))) (.cons (.cst (.int (2))) (.cons (.cst (.int (3))) .nil))))) (.bin .mod (.blt .int (.cons (.idx (.var 1) (.cst (.int (10)))) .nil)) (.cst (.int (4)))))) (.cons (.set 4 (.call 3 (.cons (.var 3) .nil))) (.cons (.set 5 (.lst (.cons (.cst (.str s_any)) (.cons (.cst (.str s_bad)) (.cons (.bin .mod (.blt .int (.cons (.idx (.var 1) (.cst (.int (11)))) .nil)) (.var 4)) (.cons (.cst (.int (0))) (.cons (.bin .sub (.var 4) (.cst (.int (1)))) .nil))))))) (.cons (.iff (.v (.cmp .lt (.var 3) (.cst (.int (3))))) (.cons (.set 5 (.bin .add (.lst (.cons (.cst (.str s_any)) (.cons (.cst (.str s_bad)) .nil))) (.call 4 (.cons (.var 3) .nil)))) .nil) .nil) (.cons (.set 6 (.mk 3 (.cons (.blt .dict (.cons (.var 2) .nil)) .nil))) (.cons (.forr (.nm 7) (.val (.lst (.cons (.cst (.str s_any)) (.cons (.cst (.str s_bad)) .nil)))) (.cons (.forr (.nm 8) (.val (.var 5)) (.cons (.forr (.nm 9) (.val (.lst (.cons (.cst (.str s__2b)) (.cons (.cst (.str s__2d)) (.cons (.cst (.str s__2a)) (.cons (.cst (.str s__26)) (.cons (.cst (.str s__3d)) (.cons (.cst (.str s__3c)) (.cons (.cst (.str s__2b_21)) (.cons (.cst (.str s__2d_21)) .nil)))))))))) (.cons (.iff (.not (.v (.call 6 (.cons (.call 7 (.cons (.var 6) (.cons (.var 3) (.cons (.var 9) (.cons (.var 7) (.cons (.var 8) .nil)))))) (.cons (.call 8 (.cons (.var 2) (.cons (.var 3) (.cons (.var 9) (.cons (.var 7) (.cons (.var 8) .nil)))))) .nil))))) (.cons (.ret (.cst (.bl false))) .nil) .nil) (.cons (.iff (.not (.v (.call 6 (.cons (.call 7 (.cons (.var 6) (.cons (.var 3) (.cons (.var 9) (.cons (.var 8) (.cons (.var 7) .nil)))))) (.cons (.call 8 (.cons (.var 2) (.cons (.var 3) (.cons (.var 9) (.cons (.var 8) (.cons (.var 7) .nil)))))) .nil))))) (.cons (.ret (.cst (.bl false))) .nil) .nil) (.cons (.wip [9]) .nil)))) (.cons (.wip [9]) (.cons (.wip [8, 9]) .nil)))) (.cons (.wip [8, 9]) (.cons (.wip [7, 8, 9]) .nil)))) (.cons (.wip [7, 8, 9]) (.cons (.ret (.cst (.bl true))) .nil)))))))))), none, false⟩
def f1 : Fd := ⟨2, 9, (.cons (.setN 2 (.lst .nil)) (.cons (.set 3 (.bin .add (.cst (.int (17))) (.blt .len (.cons (.var 0) .nil)))) (.cons (.forr (.nm 4) (.rng (.blt .len (.cons (.var 0) .nil))) (.cons (.set 6 (.blt .abs (.cons (.idx (.var 0) (.var 4)) .nil))) (.cons (.set 3 (.bin .mod (.blt .int (.cons (.bin .add (.bin .mul (.var 3) (.cst (.int (31)))) (.bin .mod (.blt .int (.cons (.var 6) .nil)) (.cst (.int (1000003))))) .nil)) (.cst (.int (2147483647))))) (.cons (.iff (.v (.cmp .ge (.var 6) (.bin .pow (.cst (.int (10))) (.cst (.int (18)))))) (.cons (.forr (.nm 5) (.rng (.cst (.int (60)))) (.cons (.iff (.v (.cmp .gt (.var 6) (.cst (.int (0))))) (.cons (.app 2 (.bin .mod (.blt .int (.cons (.var 6) .nil)) (.cst (.int (23328))))) (.cons (.set 6 (.bin .fdiv (.var 6) (.cst (.int (23328))))) .nil)) .nil) .nil)) .nil) (.cons (.forr (.nm 5) (.rng (.cst (.int (3)))) (.cons (.set 7 (.bin .mod (.blt .int (.cons (.bin .add (.bin .add (.bin .add (.bin .mul (.var 6) (.cst (.int (48271)))) (.bin .mul (.var 5) (.cst (.int (69621))))) (.bin .mul (.var 4) (.cst (.int (7919))))) (.cst (.int (11)))) .nil)) (.cst (.int (2147483647))))) (.cons (.set 8 (.bin .mod (.blt .int (.cons (.bin .add (.bin .mul (.var 7) (.cst (.int (16807)))) (.bin .fdiv (.var 7) (.cst (.int (65536))))) .nil)) (.cst (.int (2147483629))))) (.cons (.app 2 (.bin .mod (.blt .int (.cons (.bin .fdiv (.var 8) (.cst (.int (7)))) .nil)) (.cst (.int (23328))))) .nil)))) .nil)) .nil)))) (.cons (.forr (.nm 5) (.rng (.var 1)) (.cons (.set 7 (.bin .mod (.blt .int (.cons (.bin .add (.bin .add (.bin .mul (.var 3) (.cst (.int (48271)))) (.bin .mul (.var 5) (.cst (.int (69621))))) (.cst (.int (5)))) .nil)) (.cst (.int (2147483647))))) (.cons (.set 8 (.bin .mod (.blt .int (.cons (.bin .add (.bin .mul (.var 7) (.cst (.int (16807)))) (.bin .fdiv (.var 7) (.cst (.int (65536))))) .nil)) (.cst (.int (2147483629))))) (.cons (.app 2 (.bin .mod (.blt .int (.cons (.bin .fdiv (.var 8) (.cst (.int (7)))) .nil)) (.cst (.int (23328))))) .nil)))) (.cons (.ret (.slc (.var 2) .no (.so (.var 1)))) .nil))))), none, false⟩
def f2 : Fd := ⟨2, 5, (.cons (.setN 2 (.dct .nil)) (.cons (.forr (.nm 3) (.val (.call 9 .nil)) (.cons (.set 4 (.call 10 (.cons (.var 3) .nil))) (.cons (.put 2 (.var 3) (.idx (.var 4) (.bin .mod (.blt .int (.cons (.idx (.var 0) (.var 1)) .nil)) (.blt .len (.cons (.var 4) .nil))))) (.cons (.set 1 (.bin .add (.var 1) (.cst (.int (1))))) (.cons (.wip [3, 4]) .nil))))) (.cons (.wip [3, 4]) (.cons (.iff (.v (.cmp .eq (.bin .mod (.blt .int (.cons (.idx (.var 0) (.var 1)) .nil)) (.cst (.int (4)))) (.cst (.int (1))))) (.cons (.put 2 (.cst (.str s_over)) (.cst (.str s_bad))) .nil) .nil) (.cons (.iff (.v (.cmp .eq (.bin .mod (.blt .int (.cons (.idx (.var 0) (.var 1)) .nil)) (.cst (.int (4)))) (.cst (.int (2))))) (.cons (.put 2 (.cst (.str s_fresh)) (.cst (.str s_any))) .nil) .nil) (.cons (.frz 2) (.cons (.ret (.var 2)) .nil))))))), none, false⟩
def f3 : Fd := ⟨1, 1, (.cons (.ret (.idx (.lst (.cons (.cst (.int (1))) (.cons (.cst (.int (2))) (.cons (.cst (.int (4))) (.cons (.cst (.int (8))) .nil))))) (.var 0))) .nil), none, false⟩
def f4 : Fd := ⟨1, 2, (.cons (.ret (.lc [1] (.var 1) (.nm 1) (.rng (.call 3 (.cons (.var 0) .nil))) .nil)) .nil), none, false⟩
def f5 : Fd := ⟨2, 3, (.cons (.sattN 0 s_table (.dc [2] (.var 2) (.idx (.idx (.glo 0) (.var 2)) (.cst (.int (0)))) (.nm 2) (.val (.glo 0)) .nil)) (.cons (.forr (.nm 2) (.val (.var 1)) (.cons (.putO (.var 0) (.var 2) (.idx (.var 1) (.var 2))) (.cons (.wip [2]) .nil))) (.cons (.wip [2]) .nil))), none, false⟩
def f6 : Fd := ⟨2, 3, (.cons (.iff (.or (.not (.v (.isi (.var 0) .list))) (.v (.cmp .ne (.blt .len (.cons (.var 0) .nil)) (.blt .len (.cons (.var 1) .nil))))) (.cons (.ret (.cst (.bl false))) .nil) .nil) (.cons (.forr (.nm 2) (.val (.var 0)) (.cons (.iff (.not (.v (.call 11 (.cons (.cst (.int (1))) (.cons (.var 2) .nil))))) (.cons (.ret (.cst (.bl false))) .nil) .nil) (.cons (.wip [2]) .nil))) (.cons (.wip [2]) (.cons (.ret (.cmp .eq (.blt .len (.cons (.lc [2] (.var 2) (.nm 2) (.val (.var 1)) (.cons (.v (.cmp .eq (.bm .lcount (.var 0) (.cons (.var 2) .nil)) (.cst (.int (1))))) .nil)) .nil)) (.blt .len (.cons (.var 1) .nil)))) .nil)))), none, false⟩
def f7 : Fd := ⟨5, 15, (.cons (.set 5 (.call 12 (.cons (.var 3) .nil))) (.cons (.set 6 (.call 12 (.cons (.var 4) .nil))) (.cons (.set 7 (.blt .max (.cons (.blt .int (.cons (.mth (.var 5) s_rank (.cons (.var 0) .nil)) .nil)) (.cons (.blt .int (.cons (.mth (.var 6) s_rank (.cons (.var 0) .nil)) .nil)) .nil)))) (.cons (.setN 8 (.lst .nil)) (.cons (.forr (.nm 9) (.val (.mth (.var 5) s_choices (.cons (.var 1) .nil))) (.cons (.forr (.nm 10) (.val (.mth (.var 6) s_choices (.cons (.var 1) .nil))) (.cons (.set 11 (.call 13 (.cons (.var 2) (.cons (.var 9) (.cons (.var 10) .nil))))) (.cons (.set 12 (.bin .mod (.var 11) (.idx (.glo 1) (.var 1)))) (.cons (.set 13 (.lst (.cons (.idx (.lst (.cons (.var 12) (.cons (.cst (.str s_any)) (.cons (.cst (.str s_bad)) .nil)))) (.var 7)) .nil))) (.cons (.iff (.and (.v (.cmp .eq (.blt .len (.cons (.var 2) .nil)) (.cst (.int (2))))) (.v (.cmp .ne (.var 11) (.var 12)))) (.cons (.set 13 (.call 14 (.cons (.idx (.var 0) (.cst (.str s_over))) (.cons (.var 1) (.cons (.var 12) .nil))))) .nil) .nil) (.cons (.forr (.nm 14) (.val (.var 13)) (.cons (.iff (.v (.cmp .nin (.var 14) (.var 8))) (.cons (.app 8 (.var 14)) .nil) .nil) (.cons (.wip [14]) .nil))) (.cons (.wip [14]) (.cons (.wip [10, 11, 12, 13, 14]) .nil)))))))) (.cons (.wip [10, 11, 12, 13, 14]) (.cons (.wip [9, 10, 11, 12, 13, 14]) .nil)))) (.cons (.wip [9, 10, 11, 12, 13, 14]) (.cons (.frz 8) (.cons (.ret (.var 8)) .nil)))))))), none, false⟩
def f8 : Fd := ⟨5, 12, (.cons (.setN 5 (.lst .nil)) (.cons (.forr (.nm 6) (.val (.call 15 (.cons (.cst (.str s_choose)) (.cons (.var 3) (.cons (.var 1) .nil))))) (.cons (.forr (.nm 7) (.val (.call 15 (.cons (.cst (.str s_choose)) (.cons (.var 4) (.cons (.var 1) .nil))))) (.cons (.set 8 (.call 16 (.cons (.var 2) (.cons (.var 6) (.cons (.var 7) .nil))))) (.cons (.set 9 (.bin .mod (.blt .int (.cons (.var 8) .nil)) (.call 3 (.cons (.var 1) .nil)))) (.cons (.set 10 (.lst (.cons (.var 9) .nil))) (.cons (.iff (.and (.v (.cmp .eq (.blt .len (.cons (.var 2) .nil)) (.cst (.int (2))))) (.v (.cmp .ne (.var 8) (.var 9)))) (.cons (.set 10 (.call 17 (.cons (.idx (.var 0) (.cst (.str s_over))) (.cons (.var 1) (.cons (.var 9) .nil))))) .nil) (.cons (.iff (.or (.v (.cmp .eq (.var 3) (.cst (.str s_bad)))) (.v (.cmp .eq (.var 4) (.cst (.str s_bad))))) (.cons (.set 10 (.lst (.cons (.cst (.str s_bad)) .nil))) .nil) (.cons (.iff (.and (.v (.cmp .eq (.idx (.var 0) (.cst (.str s_step))) (.cst (.str s_keep)))) (.or (.v (.cmp .eq (.var 3) (.cst (.str s_any)))) (.v (.cmp .eq (.var 4) (.cst (.str s_any)))))) (.cons (.set 10 (.lst (.cons (.cst (.str s_any)) .nil))) .nil) .nil) .nil)) .nil)) (.cons (.forr (.nm 11) (.val (.var 10)) (.cons (.iff (.v (.cmp .nin (.var 11) (.var 5))) (.cons (.app 5 (.var 11)) .nil) .nil) (.cons (.wip [11]) .nil))) (.cons (.wip [11]) (.cons (.wip [7, 8, 9, 10, 11]) .nil)))))))) (.cons (.wip [7, 8, 9, 10, 11]) (.cons (.wip [6, 7, 8, 9, 10, 11]) .nil)))) (.cons (.wip [6, 7, 8, 9, 10, 11]) (.cons (.frz 5) (.cons (.ret (.var 5)) .nil))))), none, false⟩
def f9 : Fd := ⟨0, 0, (.cons (.ret (.lst (.cons (.cst (.str s_over)) (.cons (.cst (.str s_fresh)) (.cons (.cst (.str s_step)) (.cons (.cst (.str s_select)) (.cons (.cst (.str s_merge)) (.cons (.cst (.str s_store)) (.cons (.cst (.str s_print)) (.cons (.cst (.str s_test)) (.cons (.cst (.str s_idle)) .nil))))))))))) .nil), none, false⟩
def f10 : Fd := ⟨1, 2, (.cons (.iff (.or (.v (.cmp .eq (.var 0) (.cst (.str s_over)))) (.v (.cmp .eq (.var 0) (.cst (.str s_fresh))))) (.cons (.ret (.lst (.cons (.idx (.dct (.cons (.cst (.str s_over)) (.cst (.str s_wrap)) (.cons (.cst (.str s_fresh)) (.cst (.str s_zero)) .nil))) (.var 0)) (.cons (.cst (.str s_once)) (.cons (.cst (.str s_any)) (.cons (.cst (.str s_bad)) (.cons (.cst (.str s_wrong)) .nil))))))) .nil) .nil) (.cons (.iff (.v (.cmp .eq (.var 0) (.cst (.str s_idle)))) (.cons (.ret (.lst (.cons (.cst (.str s_stay)) (.cons (.cst (.str s_wrong)) .nil)))) .nil) .nil) (.cons (.set 1 (.dct (.cons (.cst (.str s_step)) (.cst (.int (2))) (.cons (.cst (.str s_select)) (.cst (.int (3))) (.cons (.cst (.str s_merge)) (.cst (.int (2))) (.cons (.cst (.str s_store)) (.cst (.int (3))) .nil)))))) (.cons (.ret (.bin .add (.slc (.lst (.cons (.cst (.str s_choose)) (.cons (.cst (.str s_keep)) (.cons (.cst (.str s_wrong)) .nil)))) .no (.so (.bm .get (.var 1) (.cons (.var 0) (.cons (.cst (.int (1))) .nil))))) (.slc (.lst (.cons (.cst (.str s_wrong)) .nil)) .no (.so (.blt .int (.cons (.cmp .nin (.var 0) (.var 1)) .nil)))))) .nil)))), none, false⟩
def f11 : Fd := ⟨2, 2, (.cons (.ret (.orr (.cmp .eq (.var 1) (.cst (.str s_any))) (.orr (.cmp .eq (.var 1) (.cst (.str s_bad))) (.orr (.cmp .eq (.var 1) (.cst (.str s_wrong))) (.andd (.isi (.var 1) .int) (.nott (.isi (.var 1) .bool))))))) .nil), none, false⟩
def f12 : Fd := ⟨1, 1, (.cons (.iff (.not (.v (.isi (.var 0) .str))) (.cons (.ret (.mk 0 (.cons (.var 0) .nil))) .nil) .nil) (.cons (.iff (.v (.cmp .eq (.var 0) (.cst (.str s_any)))) (.cons (.ret (.mk 1 (.cons (.var 0) .nil))) .nil) .nil) (.cons (.ret (.mk 2 (.cons (.var 0) .nil))) .nil))), none, false⟩
def f13 : Fd := ⟨3, 3, (.cons (.iff (.v (.cmp .eq (.idx (.var 0) (.cst (.int (0)))) (.cst (.str s__2b)))) (.cons (.ret (.bin .add (.var 1) (.var 2))) .nil) .nil) (.cons (.iff (.v (.cmp .eq (.idx (.var 0) (.cst (.int (0)))) (.cst (.str s__2d)))) (.cons (.ret (.bin .sub (.var 1) (.var 2))) .nil) .nil) (.cons (.iff (.v (.cmp .eq (.var 0) (.cst (.str s__2a)))) (.cons (.ret (.bin .mul (.var 1) (.var 2))) .nil) .nil) (.cons (.iff (.v (.cmp .eq (.var 0) (.cst (.str s__26)))) (.cons (.ret (.bin .band (.var 1) (.var 2))) .nil) .nil) (.cons (.iff (.v (.cmp .eq (.var 0) (.cst (.str s__3d)))) (.cons (.ret (.blt .int (.cons (.cmp .eq (.var 1) (.var 2)) .nil))) .nil) .nil) (.cons (.ret (.blt .int (.cons (.cmp .lt (.var 1) (.var 2)) .nil))) .nil)))))), none, false⟩
def f14 : Fd := ⟨3, 3, (.cons (.iff (.v (.cmp .eq (.var 0) (.cst (.str s_once)))) (.cons (.ret (.call 19 (.cons (.var 1) .nil))) .nil) .nil) (.cons (.iff (.v (.cmp .inn (.var 0) (.tup (.cons (.cst (.str s_wrap)) (.cons (.cst (.str s_zero)) .nil))))) (.cons (.ret (.lst (.cons (.var 2) .nil))) .nil) .nil) (.cons (.ret (.lst (.cons (.var 0) .nil))) .nil))), none, false⟩
def f15 : Fd := ⟨3, 3, (.cons (.iff (.not (.v (.isi (.var 1) .str))) (.cons (.ret (.lst (.cons (.var 1) .nil))) .nil) .nil) (.cons (.iff (.v (.cmp .eq (.var 0) (.cst (.str s_choose)))) (.cons (.ret (.call 4 (.cons (.var 2) .nil))) .nil) .nil) (.cons (.iff (.v (.cmp .eq (.var 0) (.cst (.str s_keep)))) (.cons (.ret (.lst (.cons (.var 1) .nil))) .nil) .nil) (.cons (.ret (.lst (.cons (.cst (.str s_wrong)) .nil))) .nil)))), none, false⟩
def f16 : Fd := ⟨3, 3, (.cons (.iff (.v (.cmp .eq (.idx (.var 0) (.cst (.int (0)))) (.cst (.str s__2b)))) (.cons (.ret (.bin .add (.var 1) (.var 2))) .nil) .nil) (.cons (.iff (.v (.cmp .eq (.idx (.var 0) (.cst (.int (0)))) (.cst (.str s__2d)))) (.cons (.ret (.bin .sub (.var 1) (.var 2))) .nil) .nil) (.cons (.iff (.v (.cmp .eq (.var 0) (.cst (.str s__2a)))) (.cons (.ret (.bin .mul (.var 1) (.var 2))) .nil) .nil) (.cons (.iff (.v (.cmp .eq (.var 0) (.cst (.str s__26)))) (.cons (.ret (.bin .band (.var 1) (.var 2))) .nil) .nil) (.cons (.iff (.v (.cmp .eq (.var 0) (.cst (.str s__3d)))) (.cons (.ret (.blt .int (.cons (.cmp .eq (.var 1) (.var 2)) .nil))) .nil) .nil) (.cons (.ret (.blt .int (.cons (.cmp .lt (.var 1) (.var 2)) .nil))) .nil)))))), none, false⟩
def f17 : Fd := ⟨3, 3, (.cons (.iff (.v (.cmp .eq (.var 0) (.cst (.str s_once)))) (.cons (.ret (.call 4 (.cons (.var 1) .nil))) .nil) .nil) (.cons (.iff (.or (.v (.cmp .eq (.var 0) (.cst (.str s_wrap)))) (.v (.cmp .eq (.var 0) (.cst (.str s_zero))))) (.cons (.ret (.lst (.cons (.var 2) .nil))) .nil) .nil) (.cons (.ret (.lst (.cons (.var 0) .nil))) .nil))), none, false⟩
def f18 : Fd := ⟨2, 2, (.cons (.satt (.var 0) s_standing (.var 1)) .nil), none, false⟩
def f19 : Fd := ⟨1, 1, (.cons (.ret (.lrng (.rng (.idx (.glo 1) (.var 0))))) .nil), none, false⟩
def f20 : Fd := ⟨2, 2, (.cons (.ret (.lst (.cons (.att (.var 0) s_standing) .nil))) .nil), none, false⟩
def f21 : Fd := ⟨2, 2, (.cons (.ret (.cst (.int (0)))) .nil), none, false⟩
def f22 : Fd := ⟨2, 2, .nil, some (1, 28), false⟩
def f23 : Fd := ⟨2, 2, (.cons (.ret (.blt .int (.cons (.cmp .eq (.idx (.var 1) (.cst (.str s_step))) (.cst (.str s_keep))) .nil))) .nil), none, false⟩
def f24 : Fd := ⟨2, 2, .nil, some (2, 28), false⟩
def f25 : Fd := ⟨2, 2, .nil, some (2, 29), false⟩
def f26 : Fd := ⟨2, 2, (.cons (.iff (.v (.cmp .nin (.var 1) (.att (.var 0) s_table))) (.cons .never .nil) .nil) (.cons (.ret (.idx (.att (.var 0) s_table) (.var 1))) .nil)), none, false⟩
def f27 : Fd := ⟨3, 3, (.cons (.iff (.or (.v (.cmp .nin (.var 1) (.att (.var 0) s_table))) (.v (.cmp .nin (.var 2) (.idx (.glo 0) (.var 1))))) (.cons .never .nil) .nil) (.cons (.putS (.att (.var 0) s_table) (.var 1) (.var 2)) .nil)), none, false⟩
def f28 : Fd := ⟨2, 2, (.cons (.ret (.lrng (.rng (.idx (.glo 1) (.var 1))))) .nil), none, false⟩
def f29 : Fd := ⟨2, 2, (.cons (.ret (.cst (.int (2)))) .nil), none, false⟩
def FL : List Fd := [f0, f1, f2, f3, f4, f5, f6, f7, f8, f9, f10, f11, f12, f13, f14, f15, f16, f17, f18, f19, f20, f21, f22, f23, f24, f25, f26, f27, f28, f29]
def F (i : Nat) : Option Fd := bif Nat.blt i 30 then (bif Nat.blt i 15 then bif Nat.blt i 7 then bif Nat.blt i 3 then bif Nat.blt i 1 then some f0 else bif Nat.blt i 2 then some f1 else some f2 else bif Nat.blt i 5 then bif Nat.blt i 4 then some f3 else some f4 else bif Nat.blt i 6 then some f5 else some f6 else bif Nat.blt i 11 then bif Nat.blt i 9 then bif Nat.blt i 8 then some f7 else some f8 else bif Nat.blt i 10 then some f9 else some f10 else bif Nat.blt i 13 then bif Nat.blt i 12 then some f11 else some f12 else bif Nat.blt i 14 then some f13 else some f14 else bif Nat.blt i 22 then bif Nat.blt i 18 then bif Nat.blt i 16 then some f15 else bif Nat.blt i 17 then some f16 else some f17 else bif Nat.blt i 20 then bif Nat.blt i 19 then some f18 else some f19 else bif Nat.blt i 21 then some f20 else some f21 else bif Nat.blt i 26 then bif Nat.blt i 24 then bif Nat.blt i 23 then some f22 else some f23 else bif Nat.blt i 25 then some f24 else some f25 else bif Nat.blt i 28 then bif Nat.blt i 27 then some f26 else some f27 else bif Nat.blt i 29 then some f28 else some f29) else none
def L : LT where
  cl := ["Word", "AnyMark", "BadMark", "Book"]
  fn := [("law", none), ("_law_draws", none), ("_law_book", none), ("_law_size", none), ("_law_words", none), ("Book", some "__init__"), ("_law_same", none), ("step_outcomes", none), ("_law_stepped", none), ("_law_rows", none), ("_law_rules", none), ("_law_is_outcome", none), ("kind_of", none), ("exact_result", none), ("arising", none), ("_law_taken", none), ("_law_exact", none), ("_law_arising", none), ("Kind", some "__init__"), ("all_words", none), ("Word", some "choices"), ("Word", some "rank"), ("AnyMark", some "choices"), ("AnyMark", some "rank"), ("BadMark", some "choices"), ("BadMark", some "rank"), ("Book", some "__getitem__"), ("Book", some "__setitem__"), ("Chosen", some "choices"), ("Spread", some "rank")]
  ps := [["_law_script"], ["_law_script", "_law_count"], ["_law_draws_here", "_law_at"], ["_law_width"], ["_law_width"], ["self", "rows"], ["_law_said", "_law_due"], ["book", "width", "sign", "x", "y"], ["_law_book_here", "_law_width", "_law_sign", "_law_x", "_law_y"], [], ["_law_row"], ["_law_width", "_law_x"], ["standing"], ["sign", "one", "other"], ["rule", "width", "word"], ["_law_rule", "_law_standing", "_law_width"], ["_law_sign", "_law_one", "_law_other"], ["_law_rule", "_law_width", "_law_word"], ["self", "standing"], ["width"], ["self", "width"], ["self", "book"], ["self", "width"], ["self", "book"], ["self", "width"], ["self", "book"], ["self", "row"], ["self", "row", "rule"], ["self", "width"], ["self", "book"]]
  gl := [("ROWS", (.dct [((.str s_over), (.tup [(.str s_wrap), (.str s_once), (.str s_any), (.str s_bad), (.str s_wrong)])), ((.str s_fresh), (.tup [(.str s_zero), (.str s_once), (.str s_any), (.str s_bad), (.str s_wrong)])), ((.str s_step), (.tup [(.str s_choose), (.str s_keep)])), ((.str s_select), (.tup [(.str s_choose), (.str s_keep), (.str s_wrong)])), ((.str s_merge), (.tup [(.str s_choose), (.str s_keep)])), ((.str s_store), (.tup [(.str s_choose), (.str s_keep), (.str s_wrong)])), ((.str s_print), (.tup [(.str s_choose), (.str s_wrong)])), ((.str s_test), (.tup [(.str s_choose), (.str s_wrong)])), ((.str s_idle), (.tup [(.str s_stay), (.str s_wrong)]))])), ("SIZES", (.tup [(.int (1)), (.int (2)), (.int (4)), (.int (8))]))]
  fr := ["abs", "bool", "dict", "int", "isinstance", "len", "list", "max", "range", "str", "super"]
  mt := [((0, s_choices), 20), ((0, s_rank), 21), ((1, s_choices), 22), ((1, s_rank), 23), ((2, s_choices), 24), ((2, s_rank), 25), ((3, s__5f_5fgetitem_5f_5f), 26), ((3, s__5f_5fsetitem_5f_5f), 27)]
  ini := [(0, 18), (1, 18), (2, 18), (3, 5)]
  fl := [(0, s_standing), (1, s_standing), (2, s_standing), (3, s_table)]
  sb := [[true, false, false, false], [false, true, false, false], [false, false, true, false], [false, false, false, true]]
  frs := []
  df := []
def top (i : Nat) : Stmt := PySem.Challenge.pw_badvalues_k07_steps_of_marks.main.body.getD i (.Pass ⟨0, 0, 0, 0⟩)
def inn (i j : Nat) : Stmt := (C8.clsBody (top i)).getD j (.Pass ⟨0, 0, 0, 0⟩)
def N0 : List Str := ["_law_script", "_law_draws_here", "_law_book_here", "_law_width", "_law_size_here", "_law_others", "_law_own", "_law_mark", "_law_other", "_law_sign"]
def N1 : List Str := ["_law_script", "_law_count", "_law_draws_here", "_law_seed", "_law_at", "_law_k", "_law_cell", "_law_one", "_law_two"]
def N2 : List Str := ["_law_draws_here", "_law_at", "_law_book_here", "_law_row", "_law_rules_here"]
def N3 : List Str := ["_law_width"]
def N4 : List Str := ["_law_width", "_law_k"]
def N5 : List Str := ["self", "rows", "row"]
def N6 : List Str := ["_law_said", "_law_due", "_law_x"]
def N7 : List Str := ["book", "width", "sign", "x", "y", "first", "second", "rank", "found", "one", "other", "result", "word", "outcomes", "outcome"]
def N8 : List Str := ["_law_book_here", "_law_width", "_law_sign", "_law_x", "_law_y", "_law_found", "_law_one", "_law_other", "_law_exact_here", "_law_word", "_law_outcomes", "_law_outcome"]
def N9 : List Str := []
def N10 : List Str := ["_law_row", "_law_table"]
def N11 : List Str := ["_law_width", "_law_x"]
def N12 : List Str := ["standing"]
def N13 : List Str := ["sign", "one", "other"]
def N14 : List Str := ["rule", "width", "word"]
def N15 : List Str := ["_law_rule", "_law_standing", "_law_width"]
def N16 : List Str := ["_law_sign", "_law_one", "_law_other"]
def N17 : List Str := ["_law_rule", "_law_width", "_law_word"]
def N18 : List Str := ["self", "standing"]
def N19 : List Str := ["width"]
def N20 : List Str := ["self", "width"]
def N21 : List Str := ["self", "book"]
def N22 : List Str := ["self", "width"]
def N23 : List Str := ["self", "book"]
def N24 : List Str := ["self", "width"]
def N25 : List Str := ["self", "book"]
def N26 : List Str := ["self", "row"]
def N27 : List Str := ["self", "row", "rule"]
def N28 : List Str := ["self", "width"]
def N29 : List Str := ["self", "book"]
def T : Tb := L.tb 0
end K07

set_option maxRecDepth 100000
set_option maxHeartbeats 0
namespace K07
open PySem PySem.Spec PyProof.Rows L2 MP
def fnL : List (Nat × He.DefD) := [(0, dd ("law", none) "law" "law" (top 65)), (1, dd ("_law_draws", none) "_law_draws" "_law_draws" (top 53)), (2, dd ("_law_book", none) "_law_book" "_law_book" (top 56)), (3, dd ("_law_size", none) "_law_size" "_law_size" (top 57)), (4, dd ("_law_words", none) "_law_words" "_law_words" (top 58)), (5, dd ("Book", some "__init__") "__init__" "Book.__init__" (inn 51 0)), (6, dd ("_law_same", none) "_law_same" "_law_same" (top 64)), (7, dd ("step_outcomes", none) "step_outcomes" "step_outcomes" (top 18)), (8, dd ("_law_stepped", none) "_law_stepped" "_law_stepped" (top 62)), (9, dd ("_law_rows", none) "_law_rows" "_law_rows" (top 54)), (10, dd ("_law_rules", none) "_law_rules" "_law_rules" (top 55)), (11, dd ("_law_is_outcome", none) "_law_is_outcome" "_law_is_outcome" (top 63)), (12, dd ("kind_of", none) "kind_of" "kind_of" (top 9)), (13, dd ("exact_result", none) "exact_result" "exact_result" (top 16)), (14, dd ("arising", none) "arising" "arising" (top 17)), (15, dd ("_law_taken", none) "_law_taken" "_law_taken" (top 61)), (16, dd ("_law_exact", none) "_law_exact" "_law_exact" (top 59)), (17, dd ("_law_arising", none) "_law_arising" "_law_arising" (top 60)), (18, dd ("Kind", some "__init__") "__init__" "Kind.__init__" (inn 3 0)), (19, dd ("all_words", none) "all_words" "all_words" (top 11)), (20, dd ("Word", some "choices") "choices" "Word.choices" (inn 6 0)), (21, dd ("Word", some "rank") "rank" "Word.rank" (inn 6 1)), (23, dd ("AnyMark", some "rank") "rank" "AnyMark.rank" (inn 7 1)), (26, dd ("Book", some "__getitem__") "__getitem__" "Book.__getitem__" (inn 51 1)), (27, dd ("Book", some "__setitem__") "__setitem__" "Book.__setitem__" (inn 51 2)), (28, dd ("Chosen", some "choices") "choices" "Chosen.choices" (inn 4 0)), (29, dd ("Spread", some "rank") "rank" "Spread.rank" (inn 5 0))]
def supL : List (Nat × SupAt) := [(22, ⟨("AnyMark", some "choices"), ("Chosen", some "choices"), "AnyMark", ⟨"choices", "AnyMark.choices", defArgs (inn 7 0), defScope (inn 7 0), "choices", "self", "width", ⟨28, 15, 28, 20⟩, ⟨28, 15, 28, 22⟩, ⟨28, 15, 28, 30⟩, ⟨28, 31, 28, 36⟩, ⟨28, 15, 28, 37⟩, ⟨28, 8, 28, 37⟩⟩⟩), (24, ⟨("BadMark", some "choices"), ("Chosen", some "choices"), "BadMark", ⟨"choices", "BadMark.choices", defArgs (inn 8 0), defScope (inn 8 0), "choices", "self", "width", ⟨35, 15, 35, 20⟩, ⟨35, 15, 35, 22⟩, ⟨35, 15, 35, 30⟩, ⟨35, 31, 35, 36⟩, ⟨35, 15, 35, 37⟩, ⟨35, 8, 35, 37⟩⟩⟩), (25, ⟨("BadMark", some "rank"), ("Spread", some "rank"), "BadMark", ⟨"rank", "BadMark.rank", defArgs (inn 8 1), defScope (inn 8 1), "rank", "self", "book", ⟨38, 15, 38, 20⟩, ⟨38, 15, 38, 22⟩, ⟨38, 15, 38, 27⟩, ⟨38, 28, 38, 32⟩, ⟨38, 15, 38, 33⟩, ⟨38, 8, 38, 33⟩⟩⟩)]
abbrev Rw : PySem.W.OpenRow := PySem.W.OpenLaw.row PySem.Challenge.rw_badvalues_k07_steps_of_marks
abbrev Pw : Program := PySem.Challenge.rw_badvalues_k07_steps_of_marks.prog
def W : LawD := ⟨Pw, L, fnL, supL⟩
def names : List Str := [("_wall" : PySem.Str), ("SIZES" : PySem.Str), ("Kind" : PySem.Str), ("Chosen" : PySem.Str), ("Spread" : PySem.Str), ("Word" : PySem.Str), ("AnyMark" : PySem.Str), ("BadMark" : PySem.Str), ("kind_of" : PySem.Str), ("all_words" : PySem.Str), ("parts_marks" : PySem.Str), ("standings" : PySem.Str), ("may_stand" : PySem.Str), ("telling_look" : PySem.Str), ("exact_result" : PySem.Str), ("arising" : PySem.Str), ("step_outcomes" : PySem.Str), ("taken" : PySem.Str), ("selected" : PySem.Str), ("held" : PySem.Str), ("first_state" : PySem.Str), ("with_register" : PySem.Str), ("answered" : PySem.Str), ("results" : PySem.Str), ("stored" : PySem.Str), ("effect" : PySem.Str), ("outcomes_of" : PySem.Str), ("moves" : PySem.Str), ("BadValuesError" : PySem.Str), ("BadRow" : PySem.Str), ("all_starts" : PySem.Str), ("graph_of" : PySem.Str), ("followers" : PySem.Str), ("endless" : PySem.Str), ("matches" : PySem.Str), ("told" : PySem.Str), ("loud_moves" : PySem.Str), ("Sides" : PySem.Str), ("ways_on" : PySem.Str), ("traced" : PySem.Str), ("compare" : PySem.Str), ("Verdict" : PySem.Str), ("Holds" : PySem.Str), ("Fails" : PySem.Str), ("judged" : PySem.Str), ("ROWS" : PySem.Str), ("Book" : PySem.Str), ("_law_draws" : PySem.Str), ("_law_rows" : PySem.Str), ("_law_rules" : PySem.Str), ("_law_book" : PySem.Str), ("_law_size" : PySem.Str), ("_law_words" : PySem.Str), ("_law_exact" : PySem.Str), ("_law_arising" : PySem.Str), ("_law_taken" : PySem.Str), ("_law_stepped" : PySem.Str), ("_law_is_outcome" : PySem.Str), ("_law_same" : PySem.Str)]
theorem runf (w : World) : HandSHeadRun.RunEq Rw (PySem.W.view Rw.prog [65]) W.hk W.ob 9000 names (w.withFollow "special-get-raises" false) := by
  intro os
  kernel_rfl
theorem runt (w : World) : HandSHeadRun.RunEq Rw (PySem.W.view Rw.prog [65]) W.hk W.ob 9000 names (w.withFollow "special-get-raises" true) := by
  intro os
  kernel_rfl
theorem runH (w : World) : HandSHeadRun.RunEq Rw (PySem.W.view Rw.prog [65]) W.hk W.ob 9000 names w := PySem.W.byRow2 "special-get-raises" (P := fun w => HandSHeadRun.RunEq Rw (PySem.W.view Rw.prog [65]) W.hk W.ob 9000 names w) runf runt w
end K07

set_option maxRecDepth 100000
set_option maxHeartbeats 0
namespace K07
open PySem PySem.Spec PyProof.Rows L2 MP
theorem sc0 : FnScope N0 ["_law_script"] (defScope (top 65)) := ⟨rfl, rfl, rfl, by decide +kernel, rfl, by decide +kernel, by decide +kernel⟩
theorem sc1 : FnScope N1 ["_law_script", "_law_count"] (defScope (top 53)) := ⟨rfl, rfl, rfl, by decide +kernel, rfl, by decide +kernel, by decide +kernel⟩
theorem sc2 : FnScope N2 ["_law_draws_here", "_law_at"] (defScope (top 56)) := ⟨rfl, rfl, rfl, by decide +kernel, rfl, by decide +kernel, by decide +kernel⟩
theorem sc3 : FnScope N3 ["_law_width"] (defScope (top 57)) := ⟨rfl, rfl, rfl, by decide +kernel, rfl, by decide +kernel, by decide +kernel⟩
theorem sc4 : FnScope N4 ["_law_width"] (defScope (top 58)) := ⟨rfl, rfl, rfl, by decide +kernel, rfl, by decide +kernel, by decide +kernel⟩
theorem sc5 : FnScope N5 ["self", "rows"] (defScope (inn 51 0)) := ⟨rfl, rfl, rfl, by decide +kernel, rfl, by decide +kernel, by decide +kernel⟩
theorem sc6 : FnScope N6 ["_law_said", "_law_due"] (defScope (top 64)) := ⟨rfl, rfl, rfl, by decide +kernel, rfl, by decide +kernel, by decide +kernel⟩
theorem sc7 : FnScope N7 ["book", "width", "sign", "x", "y"] (defScope (top 18)) := ⟨rfl, rfl, rfl, by decide +kernel, rfl, by decide +kernel, by decide +kernel⟩
theorem sc8 : FnScope N8 ["_law_book_here", "_law_width", "_law_sign", "_law_x", "_law_y"] (defScope (top 62)) := ⟨rfl, rfl, rfl, by decide +kernel, rfl, by decide +kernel, by decide +kernel⟩
theorem sc9 : FnScope N9 [] (defScope (top 54)) := ⟨rfl, rfl, rfl, by decide +kernel, rfl, by decide +kernel, by decide +kernel⟩
theorem sc10 : FnScope N10 ["_law_row"] (defScope (top 55)) := ⟨rfl, rfl, rfl, by decide +kernel, rfl, by decide +kernel, by decide +kernel⟩
theorem sc11 : FnScope N11 ["_law_width", "_law_x"] (defScope (top 63)) := ⟨rfl, rfl, rfl, by decide +kernel, rfl, by decide +kernel, by decide +kernel⟩
theorem sc12 : FnScope N12 ["standing"] (defScope (top 9)) := ⟨rfl, rfl, rfl, by decide +kernel, rfl, by decide +kernel, by decide +kernel⟩
theorem sc13 : FnScope N13 ["sign", "one", "other"] (defScope (top 16)) := ⟨rfl, rfl, rfl, by decide +kernel, rfl, by decide +kernel, by decide +kernel⟩
theorem sc14 : FnScope N14 ["rule", "width", "word"] (defScope (top 17)) := ⟨rfl, rfl, rfl, by decide +kernel, rfl, by decide +kernel, by decide +kernel⟩
theorem sc15 : FnScope N15 ["_law_rule", "_law_standing", "_law_width"] (defScope (top 61)) := ⟨rfl, rfl, rfl, by decide +kernel, rfl, by decide +kernel, by decide +kernel⟩
theorem sc16 : FnScope N16 ["_law_sign", "_law_one", "_law_other"] (defScope (top 59)) := ⟨rfl, rfl, rfl, by decide +kernel, rfl, by decide +kernel, by decide +kernel⟩
theorem sc17 : FnScope N17 ["_law_rule", "_law_width", "_law_word"] (defScope (top 60)) := ⟨rfl, rfl, rfl, by decide +kernel, rfl, by decide +kernel, by decide +kernel⟩
theorem sc18 : FnScope N18 ["self", "standing"] (defScope (inn 3 0)) := ⟨rfl, rfl, rfl, by decide +kernel, rfl, by decide +kernel, by decide +kernel⟩
theorem sc19 : FnScope N19 ["width"] (defScope (top 11)) := ⟨rfl, rfl, rfl, by decide +kernel, rfl, by decide +kernel, by decide +kernel⟩
theorem sc20 : FnScope N20 ["self", "width"] (defScope (inn 6 0)) := ⟨rfl, rfl, rfl, by decide +kernel, rfl, by decide +kernel, by decide +kernel⟩
theorem sc21 : FnScope N21 ["self", "book"] (defScope (inn 6 1)) := ⟨rfl, rfl, rfl, by decide +kernel, rfl, by decide +kernel, by decide +kernel⟩
theorem sc23 : FnScope N23 ["self", "book"] (defScope (inn 7 1)) := ⟨rfl, rfl, rfl, by decide +kernel, rfl, by decide +kernel, by decide +kernel⟩
theorem sc26 : FnScope N26 ["self", "row"] (defScope (inn 51 1)) := ⟨rfl, rfl, rfl, by decide +kernel, rfl, by decide +kernel, by decide +kernel⟩
theorem sc27 : FnScope N27 ["self", "row", "rule"] (defScope (inn 51 2)) := ⟨rfl, rfl, rfl, by decide +kernel, rfl, by decide +kernel, by decide +kernel⟩
theorem sc28 : FnScope N28 ["self", "width"] (defScope (inn 4 0)) := ⟨rfl, rfl, rfl, by decide +kernel, rfl, by decide +kernel, by decide +kernel⟩
theorem sc29 : FnScope N29 ["self", "book"] (defScope (inn 5 0)) := ⟨rfl, rfl, rfl, by decide +kernel, rfl, by decide +kernel, by decide +kernel⟩
theorem sc22 : NdefX.NScope ["self", "width", "__class__"] ["self", "width"] ["__class__"] (defScope (inn 7 0)) := NdefX.nscope_by (by decide +kernel)
theorem sc24 : NdefX.NScope ["self", "width", "__class__"] ["self", "width"] ["__class__"] (defScope (inn 8 0)) := NdefX.nscope_by (by decide +kernel)
theorem sc25 : NdefX.NScope ["self", "book", "__class__"] ["self", "book"] ["__class__"] (defScope (inn 8 1)) := NdefX.nscope_by (by decide +kernel)
section
variable {K : PySem.W.Frag} {fdat : Nat → FuncData}
theorem k0 : chkB (L.tx K fdat) N0 (defScope (top 65)) f0.body (defBody (top 65)) = true := by kernel_rfl
theorem k1 : chkB (L.tx K fdat) N1 (defScope (top 53)) f1.body (defBody (top 53)) = true := by kernel_rfl
theorem k2 : chkB (L.tx K fdat) N2 (defScope (top 56)) f2.body (defBody (top 56)) = true := by kernel_rfl
theorem k3 : chkB (L.tx K fdat) N3 (defScope (top 57)) f3.body (defBody (top 57)) = true := by kernel_rfl
theorem k4 : chkB (L.tx K fdat) N4 (defScope (top 58)) f4.body (defBody (top 58)) = true := by kernel_rfl
theorem k5 : chkB (L.tx K fdat) N5 (defScope (inn 51 0)) f5.body (defBody (inn 51 0)) = true := by kernel_rfl
theorem k6 : chkB (L.tx K fdat) N6 (defScope (top 64)) f6.body (defBody (top 64)) = true := by kernel_rfl
theorem k7 : chkB (L.tx K fdat) N7 (defScope (top 18)) f7.body (defBody (top 18)) = true := by kernel_rfl
theorem k8 : chkB (L.tx K fdat) N8 (defScope (top 62)) f8.body (defBody (top 62)) = true := by kernel_rfl
theorem k9 : chkB (L.tx K fdat) N9 (defScope (top 54)) f9.body (defBody (top 54)) = true := by kernel_rfl
theorem k10 : chkB (L.tx K fdat) N10 (defScope (top 55)) f10.body (defBody (top 55)) = true := by kernel_rfl
theorem k11 : chkB (L.tx K fdat) N11 (defScope (top 63)) f11.body (defBody (top 63)) = true := by kernel_rfl
theorem k12 : chkB (L.tx K fdat) N12 (defScope (top 9)) f12.body (defBody (top 9)) = true := by kernel_rfl
theorem k13 : chkB (L.tx K fdat) N13 (defScope (top 16)) f13.body (defBody (top 16)) = true := by kernel_rfl
theorem k14 : chkB (L.tx K fdat) N14 (defScope (top 17)) f14.body (defBody (top 17)) = true := by kernel_rfl
theorem k15 : chkB (L.tx K fdat) N15 (defScope (top 61)) f15.body (defBody (top 61)) = true := by kernel_rfl
theorem k16 : chkB (L.tx K fdat) N16 (defScope (top 59)) f16.body (defBody (top 59)) = true := by kernel_rfl
theorem k17 : chkB (L.tx K fdat) N17 (defScope (top 60)) f17.body (defBody (top 60)) = true := by kernel_rfl
theorem k18 : chkB (L.tx K fdat) N18 (defScope (inn 3 0)) f18.body (defBody (inn 3 0)) = true := by kernel_rfl
theorem k19 : chkB (L.tx K fdat) N19 (defScope (top 11)) f19.body (defBody (top 11)) = true := by kernel_rfl
theorem k20 : chkB (L.tx K fdat) N20 (defScope (inn 6 0)) f20.body (defBody (inn 6 0)) = true := by kernel_rfl
theorem k21 : chkB (L.tx K fdat) N21 (defScope (inn 6 1)) f21.body (defBody (inn 6 1)) = true := by kernel_rfl
theorem k23 : chkB (L.tx K fdat) N23 (defScope (inn 7 1)) f23.body (defBody (inn 7 1)) = true := by kernel_rfl
theorem k26 : chkB (L.tx K fdat) N26 (defScope (inn 51 1)) f26.body (defBody (inn 51 1)) = true := by kernel_rfl
theorem k27 : chkB (L.tx K fdat) N27 (defScope (inn 51 2)) f27.body (defBody (inn 51 2)) = true := by kernel_rfl
theorem k28 : chkB (L.tx K fdat) N28 (defScope (inn 4 0)) f28.body (defBody (inn 4 0)) = true := by kernel_rfl
theorem k29 : chkB (L.tx K fdat) N29 (defScope (inn 5 0)) f29.body (defBody (inn 5 0)) = true := by kernel_rfl
end
theorem dis : ∀ i, W.fn.lookup i = none ∨ W.sup.lookup i = none := fun i => by
  match i with
  | 0 => exact .inr rfl
  | 1 => exact .inr rfl
  | 2 => exact .inr rfl
  | 3 => exact .inr rfl
  | 4 => exact .inr rfl
  | 5 => exact .inr rfl
  | 6 => exact .inr rfl
  | 7 => exact .inr rfl
  | 8 => exact .inr rfl
  | 9 => exact .inr rfl
  | 10 => exact .inr rfl
  | 11 => exact .inr rfl
  | 12 => exact .inr rfl
  | 13 => exact .inr rfl
  | 14 => exact .inr rfl
  | 15 => exact .inr rfl
  | 16 => exact .inr rfl
  | 17 => exact .inr rfl
  | 18 => exact .inr rfl
  | 19 => exact .inr rfl
  | 20 => exact .inr rfl
  | 21 => exact .inr rfl
  | 22 => exact .inl rfl
  | 23 => exact .inr rfl
  | 24 => exact .inl rfl
  | 25 => exact .inl rfl
  | 26 => exact .inr rfl
  | 27 => exact .inr rfl
  | 28 => exact .inr rfl
  | 29 => exact .inr rfl
  | n + 30 => exact .inl rfl
theorem txt {w : World} {K : PySem.W.Frag} {h : Heap} {mg : Str → Option Value} (X : K.In h) (G : h.Ns mainGlobals mg) (c : W.obsK K = W.valK w) :
    ∃ fdat : Nat → FuncData, (∀ (s : Shared) (v : Value), BindsTo s (fdat 0) ⟨[v], []⟩ [("_law_script", v)]) ∧ ∀ base : Heap, Txt T (L.tx K fdat) F Pw w K mg base := by
  obtain ⟨o2, ct, dat, hd⟩ := LawD.dat (W := W) c dis
  have D0 := (hd 0).1 _ rfl
  have D1 := (hd 1).1 _ rfl
  have D2 := (hd 2).1 _ rfl
  have D3 := (hd 3).1 _ rfl
  have D4 := (hd 4).1 _ rfl
  have D5 := (hd 5).1 _ rfl
  have D6 := (hd 6).1 _ rfl
  have D7 := (hd 7).1 _ rfl
  have D8 := (hd 8).1 _ rfl
  have D9 := (hd 9).1 _ rfl
  have D10 := (hd 10).1 _ rfl
  have D11 := (hd 11).1 _ rfl
  have D12 := (hd 12).1 _ rfl
  have D13 := (hd 13).1 _ rfl
  have D14 := (hd 14).1 _ rfl
  have D15 := (hd 15).1 _ rfl
  have D16 := (hd 16).1 _ rfl
  have D17 := (hd 17).1 _ rfl
  have D18 := (hd 18).1 _ rfl
  have D19 := (hd 19).1 _ rfl
  have D20 := (hd 20).1 _ rfl
  have D21 := (hd 21).1 _ rfl
  have D23 := (hd 23).1 _ rfl
  have D26 := (hd 26).1 _ rfl
  have D27 := (hd 27).1 _ rfl
  have D28 := (hd 28).1 _ rfl
  have D29 := (hd 29).1 _ rfl
  obtain ⟨doc22, pm22, ct22, e22, S22⟩ := (hd 22).2 _ rfl sc22 ⟨by decide +kernel, ⟨_, rfl, rfl⟩, by decide +kernel, by decide, rfl, by decide⟩
  obtain ⟨doc24, pm24, ct24, e24, S24⟩ := (hd 24).2 _ rfl sc24 ⟨by decide +kernel, ⟨_, rfl, rfl⟩, by decide +kernel, by decide, rfl, by decide⟩
  obtain ⟨doc25, pm25, ct25, e25, S25⟩ := (hd 25).2 _ rfl sc25 ⟨by decide +kernel, ⟨_, rfl, rfl⟩, by decide +kernel, by decide, rfl, by decide⟩
  have B0 : Binds K (dat 0) ["_law_script"] [] := FunD.bindsN D0 fun _ _ _ _ _ _ us hl => match us, hl with | [_], _ => rfl
  have B1 : Binds K (dat 1) ["_law_script", "_law_count"] [] := FunD.bindsN D1 fun _ _ _ _ _ _ us hl => match us, hl with | [_, _], _ => rfl
  have B2 : Binds K (dat 2) ["_law_draws_here", "_law_at"] [] := FunD.bindsN D2 fun _ _ _ _ _ _ us hl => match us, hl with | [_, _], _ => rfl
  have B3 : Binds K (dat 3) ["_law_width"] [] := FunD.bindsN D3 fun _ _ _ _ _ _ us hl => match us, hl with | [_], _ => rfl
  have B4 : Binds K (dat 4) ["_law_width"] [] := FunD.bindsN D4 fun _ _ _ _ _ _ us hl => match us, hl with | [_], _ => rfl
  have B5 : Binds K (dat 5) ["self", "rows"] [] := FunD.bindsN D5 fun _ _ _ _ _ _ us hl => match us, hl with | [_, _], _ => rfl
  have B6 : Binds K (dat 6) ["_law_said", "_law_due"] [] := FunD.bindsN D6 fun _ _ _ _ _ _ us hl => match us, hl with | [_, _], _ => rfl
  have B7 : Binds K (dat 7) ["book", "width", "sign", "x", "y"] [] := FunD.bindsN D7 fun _ _ _ _ _ _ us hl => match us, hl with | [_, _, _, _, _], _ => rfl
  have B8 : Binds K (dat 8) ["_law_book_here", "_law_width", "_law_sign", "_law_x", "_law_y"] [] := FunD.bindsN D8 fun _ _ _ _ _ _ us hl => match us, hl with | [_, _, _, _, _], _ => rfl
  have B9 : Binds K (dat 9) [] [] := FunD.bindsN D9 fun _ _ _ _ _ _ us hl => match us, hl with | [], _ => rfl
  have B10 : Binds K (dat 10) ["_law_row"] [] := FunD.bindsN D10 fun _ _ _ _ _ _ us hl => match us, hl with | [_], _ => rfl
  have B11 : Binds K (dat 11) ["_law_width", "_law_x"] [] := FunD.bindsN D11 fun _ _ _ _ _ _ us hl => match us, hl with | [_, _], _ => rfl
  have B12 : Binds K (dat 12) ["standing"] [] := FunD.bindsN D12 fun _ _ _ _ _ _ us hl => match us, hl with | [_], _ => rfl
  have B13 : Binds K (dat 13) ["sign", "one", "other"] [] := FunD.bindsN D13 fun _ _ _ _ _ _ us hl => match us, hl with | [_, _, _], _ => rfl
  have B14 : Binds K (dat 14) ["rule", "width", "word"] [] := FunD.bindsN D14 fun _ _ _ _ _ _ us hl => match us, hl with | [_, _, _], _ => rfl
  have B15 : Binds K (dat 15) ["_law_rule", "_law_standing", "_law_width"] [] := FunD.bindsN D15 fun _ _ _ _ _ _ us hl => match us, hl with | [_, _, _], _ => rfl
  have B16 : Binds K (dat 16) ["_law_sign", "_law_one", "_law_other"] [] := FunD.bindsN D16 fun _ _ _ _ _ _ us hl => match us, hl with | [_, _, _], _ => rfl
  have B17 : Binds K (dat 17) ["_law_rule", "_law_width", "_law_word"] [] := FunD.bindsN D17 fun _ _ _ _ _ _ us hl => match us, hl with | [_, _, _], _ => rfl
  have B18 : Binds K (dat 18) ["self", "standing"] [] := FunD.bindsN D18 fun _ _ _ _ _ _ us hl => match us, hl with | [_, _], _ => rfl
  have B19 : Binds K (dat 19) ["width"] [] := FunD.bindsN D19 fun _ _ _ _ _ _ us hl => match us, hl with | [_], _ => rfl
  have B20 : Binds K (dat 20) ["self", "width"] [] := FunD.bindsN D20 fun _ _ _ _ _ _ us hl => match us, hl with | [_, _], _ => rfl
  have B21 : Binds K (dat 21) ["self", "book"] [] := FunD.bindsN D21 fun _ _ _ _ _ _ us hl => match us, hl with | [_, _], _ => rfl
  have B23 : Binds K (dat 23) ["self", "book"] [] := FunD.bindsN D23 fun _ _ _ _ _ _ us hl => match us, hl with | [_, _], _ => rfl
  have B26 : Binds K (dat 26) ["self", "row"] [] := FunD.bindsN D26 fun _ _ _ _ _ _ us hl => match us, hl with | [_, _], _ => rfl
  have B27 : Binds K (dat 27) ["self", "row", "rule"] [] := FunD.bindsN D27 fun _ _ _ _ _ _ us hl => match us, hl with | [_, _, _], _ => rfl
  have B28 : Binds K (dat 28) ["self", "width"] [] := FunD.bindsN D28 fun _ _ _ _ _ _ us hl => match us, hl with | [_, _], _ => rfl
  have B29 : Binds K (dat 29) ["self", "book"] [] := FunD.bindsN D29 fun _ _ _ _ _ _ us hl => match us, hl with | [_, _], _ => rfl
  have B22 : Binds K (dat 22) ["self", "width"] [] := by rw [e22]; exact Binds.all fun us hl => match us, hl with | [_, _], _ => rfl
  have B24 : Binds K (dat 24) ["self", "width"] [] := by rw [e24]; exact Binds.all fun us hl => match us, hl with | [_, _], _ => rfl
  have B25 : Binds K (dat 25) ["self", "book"] [] := by rw [e25]; exact Binds.all fun us hl => match us, hl with | [_, _], _ => rfl
  let fdat : Nat → FuncData := fun i => if i < 30 then dat i else default
  have bnd : ∀ f, Binds K (fdat f) ((L.tx K fdat).fps f) [] := fun f => by
    match f with
    | 0 => exact B0
    | 1 => exact B1
    | 2 => exact B2
    | 3 => exact B3
    | 4 => exact B4
    | 5 => exact B5
    | 6 => exact B6
    | 7 => exact B7
    | 8 => exact B8
    | 9 => exact B9
    | 10 => exact B10
    | 11 => exact B11
    | 12 => exact B12
    | 13 => exact B13
    | 14 => exact B14
    | 15 => exact B15
    | 16 => exact B16
    | 17 => exact B17
    | 18 => exact B18
    | 19 => exact B19
    | 20 => exact B20
    | 21 => exact B21
    | 22 => exact B22
    | 23 => exact B23
    | 24 => exact B24
    | 25 => exact B25
    | 26 => exact B26
    | 27 => exact B27
    | 28 => exact B28
    | 29 => exact B29
    | n + 30 =>
      have e : fdat (n + 30) = default := if_neg (by omega)
      rw [e]; exact bind0
  have bndD : ∀ f n, n + (T.dfl f n).length = ((L.tx K fdat).fps f).length → ∃ ds dvs, Binds K (fdat f) ((L.tx K fdat).fps f) ds ∧ Vals dvs ds ∧ ∀ ι M H, Reps ⟨Pw, w, K, L.ca K⟩ ι M H dvs (T.dfl f n) := fun f n hn => by
    exact ⟨[], [], bnd f, .nil, fun _ _ _ => .nil⟩
  have bs := FunD.bindsA (ps := ["_law_script"]) D0 fun _ _ _ _ _ _ us hl => match us, hl with | [_], _ => rfl
  refine ⟨fdat, fun s v => bs s [v] rfl, fun base => ⟨LT.txF X G o2 ct bnd bndD, fun f fd hf => ?_⟩⟩
  have hsup : mg ("super" : Str) = none := (LT.txF (N := 0) (P := Pw) (w := w) X G o2 ct bnd (fun f n hn => by have := bndD f n hn; exact this)).fre "super" (show L.fr.contains ("super" : Str) = true by decide +kernel)
  match f, hf with
  | 0, hf => cases hf; exact .inl ⟨_, _, _, _, _, _, _, N0, D0, sc0, rfl, rfl, rfl, rfl, k0⟩
  | 1, hf => cases hf; exact .inl ⟨_, _, _, _, _, _, _, N1, D1, sc1, rfl, rfl, rfl, rfl, k1⟩
  | 2, hf => cases hf; exact .inl ⟨_, _, _, _, _, _, _, N2, D2, sc2, rfl, rfl, rfl, rfl, k2⟩
  | 3, hf => cases hf; exact .inl ⟨_, _, _, _, _, _, _, N3, D3, sc3, rfl, rfl, rfl, rfl, k3⟩
  | 4, hf => cases hf; exact .inl ⟨_, _, _, _, _, _, _, N4, D4, sc4, rfl, rfl, rfl, rfl, k4⟩
  | 5, hf => cases hf; exact .inl ⟨_, _, _, _, _, _, _, N5, D5, sc5, rfl, rfl, rfl, rfl, k5⟩
  | 6, hf => cases hf; exact .inl ⟨_, _, _, _, _, _, _, N6, D6, sc6, rfl, rfl, rfl, rfl, k6⟩
  | 7, hf => cases hf; exact .inl ⟨_, _, _, _, _, _, _, N7, D7, sc7, rfl, rfl, rfl, rfl, k7⟩
  | 8, hf => cases hf; exact .inl ⟨_, _, _, _, _, _, _, N8, D8, sc8, rfl, rfl, rfl, rfl, k8⟩
  | 9, hf => cases hf; exact .inl ⟨_, _, _, _, _, _, _, N9, D9, sc9, rfl, rfl, rfl, rfl, k9⟩
  | 10, hf => cases hf; exact .inl ⟨_, _, _, _, _, _, _, N10, D10, sc10, rfl, rfl, rfl, rfl, k10⟩
  | 11, hf => cases hf; exact .inl ⟨_, _, _, _, _, _, _, N11, D11, sc11, rfl, rfl, rfl, rfl, k11⟩
  | 12, hf => cases hf; exact .inl ⟨_, _, _, _, _, _, _, N12, D12, sc12, rfl, rfl, rfl, rfl, k12⟩
  | 13, hf => cases hf; exact .inl ⟨_, _, _, _, _, _, _, N13, D13, sc13, rfl, rfl, rfl, rfl, k13⟩
  | 14, hf => cases hf; exact .inl ⟨_, _, _, _, _, _, _, N14, D14, sc14, rfl, rfl, rfl, rfl, k14⟩
  | 15, hf => cases hf; exact .inl ⟨_, _, _, _, _, _, _, N15, D15, sc15, rfl, rfl, rfl, rfl, k15⟩
  | 16, hf => cases hf; exact .inl ⟨_, _, _, _, _, _, _, N16, D16, sc16, rfl, rfl, rfl, rfl, k16⟩
  | 17, hf => cases hf; exact .inl ⟨_, _, _, _, _, _, _, N17, D17, sc17, rfl, rfl, rfl, rfl, k17⟩
  | 18, hf => cases hf; exact .inl ⟨_, _, _, _, _, _, _, N18, D18, sc18, rfl, rfl, rfl, rfl, k18⟩
  | 19, hf => cases hf; exact .inl ⟨_, _, _, _, _, _, _, N19, D19, sc19, rfl, rfl, rfl, rfl, k19⟩
  | 20, hf => cases hf; exact .inl ⟨_, _, _, _, _, _, _, N20, D20, sc20, rfl, rfl, rfl, rfl, k20⟩
  | 21, hf => cases hf; exact .inl ⟨_, _, _, _, _, _, _, N21, D21, sc21, rfl, rfl, rfl, rfl, k21⟩
  | 22, hf => cases hf; exact .inr (sup_fn (f := 22) (g := 28) (c := 1) rfl rfl S22 rfl rfl rfl hsup B28 rfl)
  | 23, hf => cases hf; exact .inl ⟨_, _, _, _, _, _, _, N23, D23, sc23, rfl, rfl, rfl, rfl, k23⟩
  | 24, hf => cases hf; exact .inr (sup_fn (f := 24) (g := 28) (c := 2) rfl rfl S24 rfl rfl rfl hsup B28 rfl)
  | 25, hf => cases hf; exact .inr (sup_fn (f := 25) (g := 29) (c := 2) rfl rfl S25 rfl rfl rfl hsup B29 rfl)
  | 26, hf => cases hf; exact .inl ⟨_, _, _, _, _, _, _, N26, D26, sc26, rfl, rfl, rfl, rfl, k26⟩
  | 27, hf => cases hf; exact .inl ⟨_, _, _, _, _, _, _, N27, D27, sc27, rfl, rfl, rfl, rfl, k27⟩
  | 28, hf => cases hf; exact .inl ⟨_, _, _, _, _, _, _, N28, D28, sc28, rfl, rfl, rfl, rfl, k28⟩
  | 29, hf => cases hf; exact .inl ⟨_, _, _, _, _, _, _, N29, D29, sc29, rfl, rfl, rfl, rfl, k29⟩
  | n + 30, hf => cases hf
end K07

set_option maxRecDepth 100000
set_option maxHeartbeats 4000000
namespace K07
open PySem PySem.Spec PyProof.Rows L2 MP
/-! the draws -/
theorem tb_dfl (f n : Nat) : T.dfl f n = [] := rfl

theorem Fdr : F 1 = some fdraws := by kernel_rfl
theorem draws (k : Nat) (ns : List Int) (hn : ns.length ≤ 63) (n : Nat) (h2 : n ≤ 100000) : ∃ l : List D, callN T F (k + 1) 1 [.scr (ns.map D.int), .int n] [] = .ok (.lst l) [] ∧ Dr l ∧ l.length = n := draws_ok (tb := T) (k := k) Fdr ns n [] hn h2
/-! the book as a dict -/
def R0 : List Str := ["wrap", "once", "any", "bad", "wrong"]
def R1 : List Str := ["zero", "once", "any", "bad", "wrong"]
def R2 : List Str := ["choose", "keep"]
def R3 : List Str := ["choose", "keep", "wrong"]
def R4 : List Str := ["choose", "keep"]
def R5 : List Str := ["choose", "keep", "wrong"]
def R6 : List Str := ["choose", "wrong"]
def R7 : List Str := ["choose", "wrong"]
def R8 : List Str := ["stay", "wrong"]
def bkL (r0 r1 r2 r3 r4 r5 r6 r7 r8 : Str) : List (D × D) := [(.str ("over" : PySem.Str), .str r0), (.str ("fresh" : PySem.Str), .str r1), (.str ("step" : PySem.Str), .str r2), (.str ("select" : PySem.Str), .str r3), (.str ("merge" : PySem.Str), .str r4), (.str ("store" : PySem.Str), .str r5), (.str ("print" : PySem.Str), .str r6), (.str ("test" : PySem.Str), .str r7), (.str ("idle" : PySem.Str), .str r8)]
abbrev bookD (r0 r1 r2 r3 r4 r5 r6 r7 r8 : Str) : D := .dct (bkL r0 r1 r2 r3 r4 r5 r6 r7 r8)
structure Rul (r0 r1 r2 r3 r4 r5 r6 r7 r8 : Str) : Prop where
  h0 : r0 ∈ R0
  h1 : r1 ∈ R1
  h2 : r2 ∈ R2
  h3 : r3 ∈ R3
  h4 : r4 ∈ R4
  h5 : r5 ∈ R5
  h6 : r6 ∈ R6
  h7 : r7 ∈ R7
  h8 : r8 ∈ R8
theorem rl0 (k : Nat) : callN T F (k + 1) 10 [.str ("over" : PySem.Str)] [] = .ok (.lst (R0.map D.str)) [] := by kernel_rfl
theorem rl1 (k : Nat) : callN T F (k + 1) 10 [.str ("fresh" : PySem.Str)] [] = .ok (.lst (R1.map D.str)) [] := by kernel_rfl
theorem rl2 (k : Nat) : callN T F (k + 1) 10 [.str ("step" : PySem.Str)] [] = .ok (.lst (R2.map D.str)) [] := by kernel_rfl
theorem rl3 (k : Nat) : callN T F (k + 1) 10 [.str ("select" : PySem.Str)] [] = .ok (.lst (R3.map D.str)) [] := by kernel_rfl
theorem rl4 (k : Nat) : callN T F (k + 1) 10 [.str ("merge" : PySem.Str)] [] = .ok (.lst (R4.map D.str)) [] := by kernel_rfl
theorem rl5 (k : Nat) : callN T F (k + 1) 10 [.str ("store" : PySem.Str)] [] = .ok (.lst (R5.map D.str)) [] := by kernel_rfl
theorem rl6 (k : Nat) : callN T F (k + 1) 10 [.str ("print" : PySem.Str)] [] = .ok (.lst (R6.map D.str)) [] := by kernel_rfl
theorem rl7 (k : Nat) : callN T F (k + 1) 10 [.str ("test" : PySem.Str)] [] = .ok (.lst (R7.map D.str)) [] := by kernel_rfl
theorem rl8 (k : Nat) : callN T F (k + 1) 10 [.str ("idle" : PySem.Str)] [] = .ok (.lst (R8.map D.str)) [] := by kernel_rfl
def rowsL : List D := [.str ("over" : PySem.Str), .str ("fresh" : PySem.Str), .str ("step" : PySem.Str), .str ("select" : PySem.Str), .str ("merge" : PySem.Str), .str ("store" : PySem.Str), .str ("print" : PySem.Str), .str ("test" : PySem.Str), .str ("idle" : PySem.Str)]
theorem rowsOk (k : Nat) : callN T F (k + 1) 9 [] [] = .ok (.lst rowsL) [] := by kernel_rfl
def bkB : Ss := (.cons (.set 4 (.call 10 (.cons (.var 3) .nil))) (.cons (.put 2 (.var 3) (.idx (.var 4) (.bin .mod (.blt .int (.cons (.idx (.var 0) (.var 1)) .nil)) (.blt .len (.cons (.var 4) .nil))))) (.cons (.set 1 (.bin .add (.var 1) (.cst (.int (1))))) (.cons (.wip [3, 4]) .nil))))
def bkE : Ss := (.cons (.wip [3, 4]) (.cons (.iff (.v (.cmp .eq (.bin .mod (.blt .int (.cons (.idx (.var 0) (.var 1)) .nil)) (.cst (.int (4)))) (.cst (.int (1))))) (.cons (.put 2 (.cst (.str ("over" : PySem.Str))) (.cst (.str ("bad" : PySem.Str)))) .nil) .nil) (.cons (.iff (.v (.cmp .eq (.bin .mod (.blt .int (.cons (.idx (.var 0) (.var 1)) .nil)) (.cst (.int (4)))) (.cst (.int (2))))) (.cons (.put 2 (.cst (.str ("fresh" : PySem.Str))) (.cst (.str ("any" : PySem.Str)))) .nil) .nil) (.cons (.frz 2) (.cons (.ret (.var 2)) .nil)))))
def bkF : Ss := (.cons (.setN 2 (.dct .nil)) (.cons (.forr (.nm 3) (.val (.call 9 .nil)) bkB) bkE))
theorem bkF_eq : f2.body = bkF := by kernel_rfl
theorem Fbk : F 2 = some f2 := rfl
def ebk (l : List D) (i : Nat) (bk : List (D × D)) : Ev := [.val (.lst l), .val (.int i), .own (.dct bk), .no, .no]
theorem bk_step {Φ : Nat → List D → MH → R D} {l : List D} (x : Str) (rl : List Str) (bk : List (D × D)) (i : Nat) (a : Int) (ha : l[i]? = some (.int a)) (hR : Φ 10 [.str x] [] = .ok (.lst (rl.map D.str)) []) (hz : 0 < rl.length) (hk : kfit bk (.str x) = true) (hl : bk.length < lim) :
    ∃ r, r ∈ rl ∧ fF T Φ 3 bkB (.str x) (ebk l i bk) [] = .nx (ebk l (i + 1) (dput bk (.str x) (.str r))) [] := by
  have hz0 : 0 < (rl.map D.str).length := by rw [List.length_map]; exact hz
  obtain ⟨d, h1, h2⟩ := at_mem hz0 a
  obtain ⟨r, h3, rfl⟩ := List.mem_map.mp h2
  rw [List.length_map] at h1
  refine ⟨r, h3, ?_⟩
  have hi : i < l.length := by
    by_cases z : i < l.length
    · exact z
    · rw [List.getElem?_eq_none (by omega)] at ha; cases ha
  have ha' : L2.atI l (i : Int) = some (.int a) := by rw [atI_nat hi, ha]
  have hz' : (0 : Int) < rl.length := by omega
  show MP.execs T Φ bkB [.val (.lst l), .val (.int i), .own (.dct bk), .val (.str x), .no] [] = _
  simp [bkB, ebk, MP.execs, MP.exec, ev, evs, evOs, opd, vo, vos, view, R.bind, R.of, R.st, O.of, wipeE, setD, bltD, binD, idxD, tb_dfl, hR, ha', hz, hz', h1, hk, hl]
theorem bk_end {Φ : Nat → List D → MH → R D} {l : List D} {r0 r1 r2 r3 r4 r5 r6 r7 r8 : Str} {a : Int} (h : Rul r0 r1 r2 r3 r4 r5 r6 r7 r8) (ha : l[9]? = some (.int a)) :
    ∃ s0 s1 s2 s3 s4 s5 s6 s7 s8 : Str, Rul s0 s1 s2 s3 s4 s5 s6 s7 s8 ∧ MP.execs T Φ bkE (ebk l 9 (bkL r0 r1 r2 r3 r4 r5 r6 r7 r8)) [] = .rt (bookD s0 s1 s2 s3 s4 s5 s6 s7 s8) [] := by
  have hi : 9 < l.length := by
    by_cases z : 9 < l.length
    · exact z
    · rw [List.getElem?_eq_none (by omega)] at ha; cases ha
  have ha' : L2.atI l 9 = some (.int a) := by rw [← ha]; exact atI_nat hi
  by_cases c1 : a % 4 = 1
  · have c2 : ¬ a % 4 = 2 := by omega
    refine ⟨"bad", r1, r2, r3, r4, r5, r6, r7, r8, ⟨by simp [R0], h.h1, h.h2, h.h3, h.h4, h.h5, h.h6, h.h7, h.h8⟩, ?_⟩
    simp [bkE, ebk, bkL, MP.execs, MP.exec, ev, evs, evOs, evT, opd, vo, vos, view, R.bind, R.of, R.st, O.of, wipeE, setD, bltD, binD, idxD, cmpD, eqO, eqD, fit, truD, tb_dfl, freshD, ha', c1, c2, kfit, kk, dput, lim]
    try decide
  · by_cases c2 : a % 4 = 2
    · refine ⟨r0, "any", r2, r3, r4, r5, r6, r7, r8, ⟨h.h0, by simp [R1], h.h2, h.h3, h.h4, h.h5, h.h6, h.h7, h.h8⟩, ?_⟩
      simp [bkE, ebk, bkL, MP.execs, MP.exec, ev, evs, evOs, evT, opd, vo, vos, view, R.bind, R.of, R.st, O.of, wipeE, setD, bltD, binD, idxD, cmpD, eqO, eqD, fit, truD, tb_dfl, freshD, ha', c1, c2, kfit, kk, dput, lim]
      try exact fun z => absurd z (by decide)
    · refine ⟨r0, r1, r2, r3, r4, r5, r6, r7, r8, h, ?_⟩
      simp [bkE, ebk, bkL, MP.execs, MP.exec, ev, evs, evOs, evT, opd, vo, vos, view, R.bind, R.of, R.st, O.of, wipeE, setD, bltD, binD, idxD, cmpD, eqO, eqD, fit, truD, tb_dfl, freshD, ha', c1, c2, kfit, kk, dput, lim]
theorem bk_loop {k : Nat} {l : List D} (hl : Dr l) (hn : 9 < l.length) : ∃ r0 r1 r2 r3 r4 r5 r6 r7 r8 : Str, Rul r0 r1 r2 r3 r4 r5 r6 r7 r8 ∧ loopF (fF T (callN T F (k + 1)) 3 bkB) rowsL (ebk l 0 []) [] = .nx (ebk l 9 (bkL r0 r1 r2 r3 r4 r5 r6 r7 r8)) [] := by
  obtain ⟨a0, ha0, _⟩ := hl.get (i := 0) (by omega)
  obtain ⟨r0, m0, q0⟩ := bk_step (Φ := callN T F (k + 1)) "over" R0 [] 0 a0 ha0 (rl0 k) (by decide) (by rfl) (by show 0 < 10000000; omega)
  obtain ⟨a1, ha1, _⟩ := hl.get (i := 1) (by omega)
  obtain ⟨r1, m1, q1⟩ := bk_step (Φ := callN T F (k + 1)) "fresh" R1 [(.str ("over" : PySem.Str), .str r0)] 1 a1 ha1 (rl1 k) (by decide) (by rfl) (by show 1 < 10000000; omega)
  obtain ⟨a2, ha2, _⟩ := hl.get (i := 2) (by omega)
  obtain ⟨r2, m2, q2⟩ := bk_step (Φ := callN T F (k + 1)) "step" R2 [(.str ("over" : PySem.Str), .str r0), (.str ("fresh" : PySem.Str), .str r1)] 2 a2 ha2 (rl2 k) (by decide) (by rfl) (by show 2 < 10000000; omega)
  obtain ⟨a3, ha3, _⟩ := hl.get (i := 3) (by omega)
  obtain ⟨r3, m3, q3⟩ := bk_step (Φ := callN T F (k + 1)) "select" R3 [(.str ("over" : PySem.Str), .str r0), (.str ("fresh" : PySem.Str), .str r1), (.str ("step" : PySem.Str), .str r2)] 3 a3 ha3 (rl3 k) (by decide) (by rfl) (by show 3 < 10000000; omega)
  obtain ⟨a4, ha4, _⟩ := hl.get (i := 4) (by omega)
  obtain ⟨r4, m4, q4⟩ := bk_step (Φ := callN T F (k + 1)) "merge" R4 [(.str ("over" : PySem.Str), .str r0), (.str ("fresh" : PySem.Str), .str r1), (.str ("step" : PySem.Str), .str r2), (.str ("select" : PySem.Str), .str r3)] 4 a4 ha4 (rl4 k) (by decide) (by rfl) (by show 4 < 10000000; omega)
  obtain ⟨a5, ha5, _⟩ := hl.get (i := 5) (by omega)
  obtain ⟨r5, m5, q5⟩ := bk_step (Φ := callN T F (k + 1)) "store" R5 [(.str ("over" : PySem.Str), .str r0), (.str ("fresh" : PySem.Str), .str r1), (.str ("step" : PySem.Str), .str r2), (.str ("select" : PySem.Str), .str r3), (.str ("merge" : PySem.Str), .str r4)] 5 a5 ha5 (rl5 k) (by decide) (by rfl) (by show 5 < 10000000; omega)
  obtain ⟨a6, ha6, _⟩ := hl.get (i := 6) (by omega)
  obtain ⟨r6, m6, q6⟩ := bk_step (Φ := callN T F (k + 1)) "print" R6 [(.str ("over" : PySem.Str), .str r0), (.str ("fresh" : PySem.Str), .str r1), (.str ("step" : PySem.Str), .str r2), (.str ("select" : PySem.Str), .str r3), (.str ("merge" : PySem.Str), .str r4), (.str ("store" : PySem.Str), .str r5)] 6 a6 ha6 (rl6 k) (by decide) (by rfl) (by show 6 < 10000000; omega)
  obtain ⟨a7, ha7, _⟩ := hl.get (i := 7) (by omega)
  obtain ⟨r7, m7, q7⟩ := bk_step (Φ := callN T F (k + 1)) "test" R7 [(.str ("over" : PySem.Str), .str r0), (.str ("fresh" : PySem.Str), .str r1), (.str ("step" : PySem.Str), .str r2), (.str ("select" : PySem.Str), .str r3), (.str ("merge" : PySem.Str), .str r4), (.str ("store" : PySem.Str), .str r5), (.str ("print" : PySem.Str), .str r6)] 7 a7 ha7 (rl7 k) (by decide) (by rfl) (by show 7 < 10000000; omega)
  obtain ⟨a8, ha8, _⟩ := hl.get (i := 8) (by omega)
  obtain ⟨r8, m8, q8⟩ := bk_step (Φ := callN T F (k + 1)) "idle" R8 [(.str ("over" : PySem.Str), .str r0), (.str ("fresh" : PySem.Str), .str r1), (.str ("step" : PySem.Str), .str r2), (.str ("select" : PySem.Str), .str r3), (.str ("merge" : PySem.Str), .str r4), (.str ("store" : PySem.Str), .str r5), (.str ("print" : PySem.Str), .str r6), (.str ("test" : PySem.Str), .str r7)] 8 a8 ha8 (rl8 k) (by decide) (by rfl) (by show 8 < 10000000; omega)
  refine ⟨r0, r1, r2, r3, r4, r5, r6, r7, r8, ⟨m0, m1, m2, m3, m4, m5, m6, m7, m8⟩, ?_⟩
  refine (loopF_cons q0).trans ?_
  refine (loopF_cons q1).trans ?_
  refine (loopF_cons q2).trans ?_
  refine (loopF_cons q3).trans ?_
  refine (loopF_cons q4).trans ?_
  refine (loopF_cons q5).trans ?_
  refine (loopF_cons q6).trans ?_
  refine (loopF_cons q7).trans ?_
  refine (loopF_cons q8).trans ?_
  rfl
theorem book_ok (k : Nat) {l : List D} (hl : Dr l) (hn : 9 < l.length) : ∃ r0 r1 r2 r3 r4 r5 r6 r7 r8 : Str, Rul r0 r1 r2 r3 r4 r5 r6 r7 r8 ∧ callN T F (k + 2) 2 [.lst l, .int 0] [] = .ok (bookD r0 r1 r2 r3 r4 r5 r6 r7 r8) [] := by
  obtain ⟨t0, t1, t2, t3, t4, t5, t6, t7, t8, t, q⟩ := bk_loop (k := k) hl hn
  obtain ⟨a, ha, _⟩ := hl.get (i := 9) hn
  obtain ⟨r0, r1, r2, r3, r4, r5, r6, r7, r8, r, q2⟩ := bk_end (Φ := callN T F (k + 1)) t ha
  refine ⟨r0, r1, r2, r3, r4, r5, r6, r7, r8, r, callN_of Fbk rfl rfl (run_of bkF_eq rfl rfl ?_)⟩
  have e1 : MP.exec T (callN T F (k + 1)) (.setN 2 (.dct .nil)) (startE f2.ns [.lst l, .int 0]) [] = .nx (ebk l 0 []) [] := by kernel_rfl
  have e2 : MP.exec T (callN T F (k + 1)) (.forr (.nm 3) (.val (.call 9 .nil)) bkB) (ebk l 0 []) [] = .nx (ebk l 9 (bkL t0 t1 t2 t3 t4 t5 t6 t7 t8)) [] := (ex_forv (x := .d (.lst rowsL)) rfl (by simp [opd, ev, evs, R.bind, tb_dfl, rowsOk]) rfl).trans q
  exact (execs_nx e1).trans ((execs_nx e2).trans q2)
/-! Book(..) -/
def inB : Ss := (.cons (.putO (.var 0) (.var 2) (.idx (.var 1) (.var 2))) (.cons (.wip [2]) .nil))
def inF : Ss := (.cons (.sattN 0 ("table" : PySem.Str) (.dc [2] (.var 2) (.idx (.idx (.glo 0) (.var 2)) (.cst (.int (0)))) (.nm 2) (.val (.glo 0)) .nil)) (.cons (.forr (.nm 2) (.val (.var 1)) inB) (.cons (.wip [2]) .nil)))
theorem inF_eq : f5.body = inF := by kernel_rfl
theorem Fin : F 5 = some f5 := rfl
def bkH (t0 t1 t2 t3 t4 t5 t6 t7 t8 : Str) : MH := [.ins 3 [(("table" : PySem.Str), .ref 1)], bookD t0 t1 t2 t3 t4 t5 t6 t7 t8]
def ein (r0 r1 r2 r3 r4 r5 r6 r7 r8 : Str) : Ev := [.val (.ref 0), .val (bookD r0 r1 r2 r3 r4 r5 r6 r7 r8), .no]
theorem in0 (k : Nat) {r0 r1 r2 r3 r4 r5 r6 r7 r8 t0 t1 t2 t3 t4 t5 t6 t7 t8 : Str} (h : r0 ∈ R0) : fF T (callN T F (k + 1)) 2 inB (.str ("over" : PySem.Str)) (ein r0 r1 r2 r3 r4 r5 r6 r7 r8) (bkH t0 t1 t2 t3 t4 t5 t6 t7 t8) = .nx (ein r0 r1 r2 r3 r4 r5 r6 r7 r8) (bkH r0 t1 t2 t3 t4 t5 t6 t7 t8) := by
  simp only [R0, List.mem_cons, List.mem_nil_iff, or_false] at h
  rcases h with rfl | rfl | rfl | rfl | rfl <;> kernel_rfl
theorem in1 (k : Nat) {r0 r1 r2 r3 r4 r5 r6 r7 r8 t0 t1 t2 t3 t4 t5 t6 t7 t8 : Str} (h : r1 ∈ R1) : fF T (callN T F (k + 1)) 2 inB (.str ("fresh" : PySem.Str)) (ein r0 r1 r2 r3 r4 r5 r6 r7 r8) (bkH r0 t1 t2 t3 t4 t5 t6 t7 t8) = .nx (ein r0 r1 r2 r3 r4 r5 r6 r7 r8) (bkH r0 r1 t2 t3 t4 t5 t6 t7 t8) := by
  simp only [R1, List.mem_cons, List.mem_nil_iff, or_false] at h
  rcases h with rfl | rfl | rfl | rfl | rfl <;> kernel_rfl
theorem in2 (k : Nat) {r0 r1 r2 r3 r4 r5 r6 r7 r8 t0 t1 t2 t3 t4 t5 t6 t7 t8 : Str} (h : r2 ∈ R2) : fF T (callN T F (k + 1)) 2 inB (.str ("step" : PySem.Str)) (ein r0 r1 r2 r3 r4 r5 r6 r7 r8) (bkH r0 r1 t2 t3 t4 t5 t6 t7 t8) = .nx (ein r0 r1 r2 r3 r4 r5 r6 r7 r8) (bkH r0 r1 r2 t3 t4 t5 t6 t7 t8) := by
  simp only [R2, List.mem_cons, List.mem_nil_iff, or_false] at h
  rcases h with rfl | rfl <;> kernel_rfl
theorem in3 (k : Nat) {r0 r1 r2 r3 r4 r5 r6 r7 r8 t0 t1 t2 t3 t4 t5 t6 t7 t8 : Str} (h : r3 ∈ R3) : fF T (callN T F (k + 1)) 2 inB (.str ("select" : PySem.Str)) (ein r0 r1 r2 r3 r4 r5 r6 r7 r8) (bkH r0 r1 r2 t3 t4 t5 t6 t7 t8) = .nx (ein r0 r1 r2 r3 r4 r5 r6 r7 r8) (bkH r0 r1 r2 r3 t4 t5 t6 t7 t8) := by
  simp only [R3, List.mem_cons, List.mem_nil_iff, or_false] at h
  rcases h with rfl | rfl | rfl <;> kernel_rfl
theorem in4 (k : Nat) {r0 r1 r2 r3 r4 r5 r6 r7 r8 t0 t1 t2 t3 t4 t5 t6 t7 t8 : Str} (h : r4 ∈ R4) : fF T (callN T F (k + 1)) 2 inB (.str ("merge" : PySem.Str)) (ein r0 r1 r2 r3 r4 r5 r6 r7 r8) (bkH r0 r1 r2 r3 t4 t5 t6 t7 t8) = .nx (ein r0 r1 r2 r3 r4 r5 r6 r7 r8) (bkH r0 r1 r2 r3 r4 t5 t6 t7 t8) := by
  simp only [R4, List.mem_cons, List.mem_nil_iff, or_false] at h
  rcases h with rfl | rfl <;> kernel_rfl
theorem in5 (k : Nat) {r0 r1 r2 r3 r4 r5 r6 r7 r8 t0 t1 t2 t3 t4 t5 t6 t7 t8 : Str} (h : r5 ∈ R5) : fF T (callN T F (k + 1)) 2 inB (.str ("store" : PySem.Str)) (ein r0 r1 r2 r3 r4 r5 r6 r7 r8) (bkH r0 r1 r2 r3 r4 t5 t6 t7 t8) = .nx (ein r0 r1 r2 r3 r4 r5 r6 r7 r8) (bkH r0 r1 r2 r3 r4 r5 t6 t7 t8) := by
  simp only [R5, List.mem_cons, List.mem_nil_iff, or_false] at h
  rcases h with rfl | rfl | rfl <;> kernel_rfl
theorem in6 (k : Nat) {r0 r1 r2 r3 r4 r5 r6 r7 r8 t0 t1 t2 t3 t4 t5 t6 t7 t8 : Str} (h : r6 ∈ R6) : fF T (callN T F (k + 1)) 2 inB (.str ("print" : PySem.Str)) (ein r0 r1 r2 r3 r4 r5 r6 r7 r8) (bkH r0 r1 r2 r3 r4 r5 t6 t7 t8) = .nx (ein r0 r1 r2 r3 r4 r5 r6 r7 r8) (bkH r0 r1 r2 r3 r4 r5 r6 t7 t8) := by
  simp only [R6, List.mem_cons, List.mem_nil_iff, or_false] at h
  rcases h with rfl | rfl <;> kernel_rfl
theorem in7 (k : Nat) {r0 r1 r2 r3 r4 r5 r6 r7 r8 t0 t1 t2 t3 t4 t5 t6 t7 t8 : Str} (h : r7 ∈ R7) : fF T (callN T F (k + 1)) 2 inB (.str ("test" : PySem.Str)) (ein r0 r1 r2 r3 r4 r5 r6 r7 r8) (bkH r0 r1 r2 r3 r4 r5 r6 t7 t8) = .nx (ein r0 r1 r2 r3 r4 r5 r6 r7 r8) (bkH r0 r1 r2 r3 r4 r5 r6 r7 t8) := by
  simp only [R7, List.mem_cons, List.mem_nil_iff, or_false] at h
  rcases h with rfl | rfl <;> kernel_rfl
theorem in8 (k : Nat) {r0 r1 r2 r3 r4 r5 r6 r7 r8 t0 t1 t2 t3 t4 t5 t6 t7 t8 : Str} (h : r8 ∈ R8) : fF T (callN T F (k + 1)) 2 inB (.str ("idle" : PySem.Str)) (ein r0 r1 r2 r3 r4 r5 r6 r7 r8) (bkH r0 r1 r2 r3 r4 r5 r6 r7 t8) = .nx (ein r0 r1 r2 r3 r4 r5 r6 r7 r8) (bkH r0 r1 r2 r3 r4 r5 r6 r7 r8) := by
  simp only [R8, List.mem_cons, List.mem_nil_iff, or_false] at h
  rcases h with rfl | rfl <;> kernel_rfl
theorem init_ok (k : Nat) {r0 r1 r2 r3 r4 r5 r6 r7 r8 : Str} (h : Rul r0 r1 r2 r3 r4 r5 r6 r7 r8) : callN T F (k + 2) 5 [.ref 0, bookD r0 r1 r2 r3 r4 r5 r6 r7 r8] [.ins 3 []] = .ok .non (bkH r0 r1 r2 r3 r4 r5 r6 r7 r8) := by
  refine callN_of Fin rfl rfl (run_ofN inF_eq rfl rfl ?_)
  have e1 : MP.exec T (callN T F (k + 1)) (.sattN 0 ("table" : PySem.Str) (.dc [2] (.var 2) (.idx (.idx (.glo 0) (.var 2)) (.cst (.int (0)))) (.nm 2) (.val (.glo 0)) .nil)) (startE f5.ns [.ref 0, bookD r0 r1 r2 r3 r4 r5 r6 r7 r8]) [.ins 3 []] = .nx (ein r0 r1 r2 r3 r4 r5 r6 r7 r8) (bkH "wrap" "zero" "choose" "choose" "choose" "choose" "choose" "choose" "stay") := by kernel_rfl
  have e2 : MP.exec T (callN T F (k + 1)) (.forr (.nm 2) (.val (.var 1)) inB) (ein r0 r1 r2 r3 r4 r5 r6 r7 r8) (bkH "wrap" "zero" "choose" "choose" "choose" "choose" "choose" "choose" "stay") = .nx (ein r0 r1 r2 r3 r4 r5 r6 r7 r8) (bkH r0 r1 r2 r3 r4 r5 r6 r7 r8) := by
    refine (ex_forv (ds := rowsL) rfl (by rfl) (by rfl)).trans ?_
    refine (loopF_cons (in0 k (t0 := "wrap") (t1 := "zero") (t2 := "choose") (t3 := "choose") (t4 := "choose") (t5 := "choose") (t6 := "choose") (t7 := "choose") (t8 := "stay") h.h0)).trans ?_
    refine (loopF_cons (in1 k (t0 := "wrap") (t1 := "zero") (t2 := "choose") (t3 := "choose") (t4 := "choose") (t5 := "choose") (t6 := "choose") (t7 := "choose") (t8 := "stay") h.h1)).trans ?_
    refine (loopF_cons (in2 k (t0 := "wrap") (t1 := "zero") (t2 := "choose") (t3 := "choose") (t4 := "choose") (t5 := "choose") (t6 := "choose") (t7 := "choose") (t8 := "stay") h.h2)).trans ?_
    refine (loopF_cons (in3 k (t0 := "wrap") (t1 := "zero") (t2 := "choose") (t3 := "choose") (t4 := "choose") (t5 := "choose") (t6 := "choose") (t7 := "choose") (t8 := "stay") h.h3)).trans ?_
    refine (loopF_cons (in4 k (t0 := "wrap") (t1 := "zero") (t2 := "choose") (t3 := "choose") (t4 := "choose") (t5 := "choose") (t6 := "choose") (t7 := "choose") (t8 := "stay") h.h4)).trans ?_
    refine (loopF_cons (in5 k (t0 := "wrap") (t1 := "zero") (t2 := "choose") (t3 := "choose") (t4 := "choose") (t5 := "choose") (t6 := "choose") (t7 := "choose") (t8 := "stay") h.h5)).trans ?_
    refine (loopF_cons (in6 k (t0 := "wrap") (t1 := "zero") (t2 := "choose") (t3 := "choose") (t4 := "choose") (t5 := "choose") (t6 := "choose") (t7 := "choose") (t8 := "stay") h.h6)).trans ?_
    refine (loopF_cons (in7 k (t0 := "wrap") (t1 := "zero") (t2 := "choose") (t3 := "choose") (t4 := "choose") (t5 := "choose") (t6 := "choose") (t7 := "choose") (t8 := "stay") h.h7)).trans ?_
    refine (loopF_cons (in8 k (t0 := "wrap") (t1 := "zero") (t2 := "choose") (t3 := "choose") (t4 := "choose") (t5 := "choose") (t6 := "choose") (t7 := "choose") (t8 := "stay") h.h8)).trans ?_
    rfl
  exact ⟨_, (execs_nx e1).trans ((execs_nx e2).trans rfl)⟩
abbrev ownD (r0 r1 r2 r3 r4 r5 r6 r7 r8 : Str) : D := .ins 3 [(("table" : PySem.Str), bookD r0 r1 r2 r3 r4 r5 r6 r7 r8)]
theorem mk_ok (k : Nat) {r0 r1 r2 r3 r4 r5 r6 r7 r8 : Str} (h : Rul r0 r1 r2 r3 r4 r5 r6 r7 r8) {e : Ev} {m : M} (hm : ev T (callN T F (k + 2)) m e [] = .ok (bookD r0 r1 r2 r3 r4 r5 r6 r7 r8) []) : ev T (callN T F (k + 2)) (.mk 3 (.cons m .nil)) e [] = .ok (ownD r0 r1 r2 r3 r4 r5 r6 r7 r8) [] := by
  have q := init_ok k h
  have e1 : ev T (callN T F (k + 2)) (.mk 3 (.cons m .nil)) e [] = (callN T F (k + 2) 5 [.ref 0, bookD r0 r1 r2 r3 r4 r5 r6 r7 r8] [.ins 3 []]).bind fun r h' => (match r with
      | .non => frozen 0 h'
      | _ => .no) := by
    simp only [ev, evs, hm, R.bind]
    rfl
  rw [e1, q]
  rfl
theorem dict_ok {Φ : Nat → List D → MH → R D} {r0 r1 r2 r3 r4 r5 r6 r7 r8 : Str} {e : Ev} {i : Nat} (he : e[i]? = some (.val (bookD r0 r1 r2 r3 r4 r5 r6 r7 r8))) : ev T Φ (.blt .dict (.cons (.var i) .nil)) e [] = .ok (bookD r0 r1 r2 r3 r4 r5 r6 r7 r8) [] := by
  have e1 : evOs T Φ (.cons (.var i) .nil) e [] = .ok [.d (bookD r0 r1 r2 r3 r4 r5 r6 r7 r8)] [] := by
    simp only [evOs, opd, he, R.bind]
  have e2 : ev T Φ (.blt .dict (.cons (.var i) .nil)) e [] = (evOs T Φ (.cons (.var i) .nil) e []).bind fun os h => (match vos e h os with
    | some ds => .of (bltD .dict ds) h
    | none => .no) := rfl
  rw [e2, e1]
  rfl
theorem own_ok (k : Nat) {r0 r1 r2 r3 r4 r5 r6 r7 r8 : Str} (h : Rul r0 r1 r2 r3 r4 r5 r6 r7 r8) {e : Ev} {i : Nat} (he : e[i]? = some (.val (bookD r0 r1 r2 r3 r4 r5 r6 r7 r8))) : ev T (callN T F (k + 2)) (.mk 3 (.cons (.blt .dict (.cons (.var i) .nil)) .nil)) e [] = .ok (ownD r0 r1 r2 r3 r4 r5 r6 r7 r8) [] := mk_ok k h (dict_ok he)
end K07

set_option maxRecDepth 100000
set_option maxHeartbeats 4000000
namespace K07
open PySem PySem.Spec PyProof.Rows L2 MP
/-! standings, words -/
def dN (s : Nat) : D := if s < 100 then .int s else if s = 100 then .str s_any else .str s_bad
theorem dN_lt {x : Nat} (h : x < 8) : dN x = .int x := if_pos (by omega)
theorem dN_any : dN 100 = .str s_any := rfl
theorem dN_bad : dN 101 = .str s_bad := rfl
def WD (n : Nat) : List D := (List.range n).map fun (i : Nat) => .int (i : Int)
def Wd (w : Int) (n : Nat) : Prop := (w = 1 ∧ n = 2) ∨ (w = 2 ∧ n = 4) ∨ (w = 3 ∧ n = 8)
theorem Wd.n {w : Int} {n : Nat} (h : Wd w n) : n = 2 ∨ n = 4 ∨ n = 8 := by
  rcases h with h | h | h
  · exact .inl h.2
  · exact .inr (.inl h.2)
  · exact .inr (.inr h.2)
theorem Wd.at {w : Int} {n : Nat} (h : Wd w n) : L2.atI [D.int 1, .int 2, .int 4, .int 8] w = some (.int (n : Int)) := by
  rcases h with ⟨rfl, rfl⟩ | ⟨rfl, rfl⟩ | ⟨rfl, rfl⟩ <;> rfl
def signs : List Str := [s__2b, s__2d, s__2a, s__26, s__3d, s__3c, s__2b_21, s__2d_21]
/-! exact results -/
def exI (s : Str) (a b : Int) : Int := match callN T F 1 13 [.str s, .int a, .int b] [] with
  | .ok (.int e) _ => e
  | _ => 0
def exB (s : Str) (a b : Int) : Bool := match callN T F 1 13 [.str s, .int a, .int b] [], callN T F 1 16 [.str s, .int a, .int b] [] with
  | .ok (.int e) [], .ok (.int e') [] => decide (e = e')
  | _, _ => false
def exA (s : Str) : Bool := (List.range 8).all fun a => (List.range 8).all fun b => exB s (a : Int) (b : Int)
theorem exA0 : exA s__2b = true := by kernel_rfl
theorem exA1 : exA s__2d = true := by kernel_rfl
theorem exA2 : exA s__2a = true := by kernel_rfl
theorem exA3 : exA s__26 = true := by kernel_rfl
theorem exA4 : exA s__3d = true := by kernel_rfl
theorem exA5 : exA s__3c = true := by kernel_rfl
theorem exA6 : exA s__2b_21 = true := by kernel_rfl
theorem exA7 : exA s__2d_21 = true := by kernel_rfl
theorem ex_ok (k : Nat) {s : Str} (hs : s ∈ signs) {a b : Nat} (ha : a < 8) (hb : b < 8) : callN T F (k + 1) 13 [.str s, .int (a : Int), .int (b : Int)] [] = .ok (.int (exI s a b)) [] ∧ callN T F (k + 1) 16 [.str s, .int (a : Int), .int (b : Int)] [] = .ok (.int (exI s a b)) [] := by
  have h : exA s = true := by
    simp only [signs, List.mem_cons, List.mem_nil_iff, or_false] at hs
    rcases hs with rfl | rfl | rfl | rfl | rfl | rfl | rfl | rfl
    · exact exA0
    · exact exA1
    · exact exA2
    · exact exA3
    · exact exA4
    · exact exA5
    · exact exA6
    · exact exA7
  have q : exB s (a : Int) (b : Int) = true := List.all_eq_true.mp (List.all_eq_true.mp h a (List.mem_range.mpr ha)) b (List.mem_range.mpr hb)
  unfold exB at q
  unfold exI
  cases e1 : callN T F 1 13 [.str s, .int (a : Int), .int (b : Int)] [] with
  | ok d h1 =>
    cases e2 : callN T F 1 16 [.str s, .int (a : Int), .int (b : Int)] [] with
    | ok d2 h2 =>
      rw [e1, e2] at q
      cases d <;> cases h1 <;> first | (cases q; done) | skip
      cases d2 <;> cases h2 <;> first | (cases q; done) | skip
      rename_i i j
      have e3 : i = j := of_decide_eq_true q
      subst e3
      exact ⟨(callN_le (show 1 ≤ k + 1 by omega) _ _ _).ok e1, (callN_le (show 1 ≤ k + 1 by omega) _ _ _).ok e2⟩
    | _ => rw [e1, e2] at q; cases d <;> cases h1 <;> cases q
  | _ => rw [e1] at q; cases q
/-! what arises -/
def ar (r : Str) (n : Nat) (wd : Int) : List D := if r = "once" then WD n else if r = "wrap" ∨ r = "zero" then [.int wd] else [.str r]
theorem ar_ok (k : Nat) {r : Str} (h : r ∈ R0) {w : Int} {n : Nat} (hw : Wd w n) (wd : Int) : callN T F (k + 3) 14 [.str r, .int w, .int wd] [] = .ok (.lst (ar r n wd)) [] ∧ callN T F (k + 3) 17 [.str r, .int w, .int wd] [] = .ok (.lst (ar r n wd)) [] := by
  simp only [R0, List.mem_cons, List.mem_nil_iff, or_false] at h
  rcases h with rfl | rfl | rfl | rfl | rfl <;> rcases hw with ⟨rfl, rfl⟩ | ⟨rfl, rfl⟩ | ⟨rfl, rfl⟩ <;> exact ⟨by kernel_rfl, by kernel_rfl⟩
theorem size_ok (k : Nat) {w : Int} {n : Nat} (hw : Wd w n) : callN T F (k + 1) 3 [.int w] [] = .ok (.int (n : Int)) [] := by
  rcases hw with ⟨rfl, rfl⟩ | ⟨rfl, rfl⟩ | ⟨rfl, rfl⟩ <;> kernel_rfl
theorem get_over (k : Nat) {r0 r1 r2 r3 r4 r5 r6 r7 r8 : Str} : callN T F (k + 1) 26 [ownD r0 r1 r2 r3 r4 r5 r6 r7 r8, .str s_over] [] = .ok (.str r0) [] := by kernel_rfl
/-! outcomes -/
def Outc (d : D) : Prop := (∃ i : Int, d = .int i) ∨ d = .str s_any ∨ d = .str s_bad ∨ d = .str s_wrong
def Good (l : List D) : Prop := ∀ d ∈ l, Outc d
theorem Outc.fit {d : D} (h : Outc d) : MP.fit d 60 = true := by
  rcases h with ⟨i, rfl⟩ | rfl | rfl | rfl
  · rfl
  · kernel_rfl
  · kernel_rfl
  · kernel_rfl
theorem Good.fit : ∀ {l : List D}, Good l → fitL l 60 = true
  | [], _ => rfl
  | d :: r, h => by
    show (MP.fit d 60 && fitL r 60) = true
    rw [(h d List.mem_cons_self).fit, Good.fit fun d m => h d (List.mem_cons_of_mem _ m)]
    rfl
def add1 (l : List D) (d : D) : List D := if l.any (fun z => eqD z d) = true then l else l ++ [d]
theorem add1_good {l : List D} {d : D} (h : Good l) (hd : Outc d) : Good (add1 l d) := by
  unfold add1
  split
  · exact h
  · exact fun z m => (List.mem_append.mp m).elim (h z) fun m => by rw [List.mem_singleton.mp m]; exact hd
theorem add1_len {l : List D} {d : D} : (add1 l d).length ≤ l.length + 1 := by
  unfold add1
  split
  · omega
  · rw [List.length_append]; exact Nat.le_refl _
def fB (i j : Nat) : Ss := (.cons (.iff (.v (.cmp .nin (.var i) (.var j))) (.cons (.app j (.var i)) .nil) .nil) (.cons (.wip [i]) .nil))
def pk (rk : Nat) (wd : Int) : D := if rk = 0 then .int wd else if rk = 1 then .str s_any else .str s_bad
def outs (s : Str) (n : Nat) (r : Str) (rk : Nat) (a b : Nat) : List D := if s.length = 2 ∧ ¬ exI s a b = exI s a b % n then ar r n (exI s a b % n) else [pk rk (exI s a b % n)]
theorem WD_good (n : Nat) : Good (WD n) := fun d m => by
  obtain ⟨i, _, rfl⟩ := List.mem_map.mp m
  exact .inl ⟨_, rfl⟩
theorem WD_len (n : Nat) : (WD n).length = n := by unfold WD; rw [List.length_map, List.length_range]
theorem ar_good {r : Str} (h : r ∈ R0) {n : Nat} {wd : Int} : Good (ar r n wd) := by
  unfold ar
  split
  · exact WD_good n
  · split
    · exact fun d m => .inl ⟨wd, List.mem_singleton.mp m⟩
    · rename_i h1 h2
      refine fun d m => ?_
      rw [List.mem_singleton.mp m]
      simp only [R0, List.mem_cons, List.mem_nil_iff, or_false] at h
      rcases h with rfl | rfl | rfl | rfl | rfl
      · exact absurd (.inl rfl) h2
      · exact absurd rfl h1
      · exact .inr (.inl rfl)
      · exact .inr (.inr (.inl rfl))
      · exact .inr (.inr (.inr rfl))
theorem outs_good {s r : Str} (h : r ∈ R0) {n rk a b : Nat} : Good (outs s n r rk a b) := by
  unfold outs
  split
  · exact ar_good h
  · refine fun d m => ?_
    rw [List.mem_singleton.mp m]
    unfold pk
    split
    · exact .inl ⟨_, rfl⟩
    · split
      · exact .inr (.inl rfl)
      · exact .inr (.inr (.inl rfl))
theorem outs_len {s r : Str} {n rk a b : Nat} (hn : n = 2 ∨ n = 4 ∨ n = 8) : (outs s n r rk a b).length ≤ 8 := by
  unfold outs
  split
  · unfold ar
    split
    · rw [WD_len]; omega
    · split
      · exact Nat.le_of_ble_eq_true rfl
      · exact Nat.le_of_ble_eq_true rfl
  · exact Nat.le_of_ble_eq_true rfl
section
variable {Φ : Nat → List D → MH → MP.R D}
def eA (v0 v1 v2 v3 v4 v5 v6 v7 : D) (s9 s10 s11 s12 s13 s14 : Slot) (l : List D) : Ev := [.val v0, .val v1, .val v2, .val v3, .val v4, .val v5, .val v6, .val v7, .own (.lst l), s9, s10, s11, s12, s13, s14]
def eB (v0 v1 v2 v3 v4 : D) (s6 s7 s8 s9 s10 s11 : Slot) (l : List D) : Ev := [.val v0, .val v1, .val v2, .val v3, .val v4, .own (.lst l), s6, s7, s8, s9, s10, s11]
theorem a14 {v0 v1 v2 v3 v4 v5 v6 v7 d : D} {s9 s10 s11 s12 s13 : Slot} {l : List D} (h : Good l) (hd : Outc d) (hl : l.length < lim) :
    fF T Φ 14 (fB 14 8) d (eA v0 v1 v2 v3 v4 v5 v6 v7 s9 s10 s11 s12 s13 .no l) [] = .nx (eA v0 v1 v2 v3 v4 v5 v6 v7 s9 s10 s11 s12 s13 .no (add1 l d)) [] := by
  show MP.execs T Φ (fB 14 8) (eA v0 v1 v2 v3 v4 v5 v6 v7 s9 s10 s11 s12 s13 (.val d) l) [] = _
  have ind : inD d (.lst l) = some (l.any fun z => eqD z d) := by
    have e : inD d (.lst l) = if (MP.fit d 60 && fitL l 60) = true then some (l.any fun z => eqD z d) else none := by cases d <;> rfl
    rw [e, if_pos (by rw [hd.fit, h.fit]; rfl)]
  rcases hd with ⟨i, rfl⟩ | rfl | rfl | rfl
  all_goals (clear h; generalize hq : (l.any fun z => eqD z _) = q at ind; cases q <;> simp [fB, eA, MP.execs, MP.exec, ev, evs, evT, opd, vo, vos, evOs, view, R.bind, R.of, R.st, cmpD, truD, tb_dfl, wipeE, bltD, binD, idxD, add1, hq, ind, hl])
theorem b11 {v0 v1 v2 v3 v4 d : D} {s6 s7 s8 s9 s10 : Slot} {l : List D} (h : Good l) (hd : Outc d) (hl : l.length < lim) :
    fF T Φ 11 (fB 11 5) d (eB v0 v1 v2 v3 v4 s6 s7 s8 s9 s10 .no l) [] = .nx (eB v0 v1 v2 v3 v4 s6 s7 s8 s9 s10 .no (add1 l d)) [] := by
  show MP.execs T Φ (fB 11 5) (eB v0 v1 v2 v3 v4 s6 s7 s8 s9 s10 (.val d) l) [] = _
  have ind : inD d (.lst l) = some (l.any fun z => eqD z d) := by
    have e : inD d (.lst l) = if (MP.fit d 60 && fitL l 60) = true then some (l.any fun z => eqD z d) else none := by cases d <;> rfl
    rw [e, if_pos (by rw [hd.fit, h.fit]; rfl)]
  rcases hd with ⟨i, rfl⟩ | rfl | rfl | rfl
  all_goals (clear h; generalize hq : (l.any fun z => eqD z _) = q at ind; cases q <;> simp [fB, eB, MP.execs, MP.exec, ev, evs, evT, opd, vo, vos, evOs, view, R.bind, R.of, R.st, cmpD, truD, tb_dfl, wipeE, bltD, binD, idxD, add1, hq, ind, hl])
end
/-! kinds, ranks -/
def Kd (x : Nat) : Prop := x < 8 ∨ x = 100 ∨ x = 101
def kd (x : Nat) : D := if x < 100 then .ins 0 [(s_standing, .int x)] else if x = 100 then .ins 1 [(s_standing, .str s_any)] else .ins 2 [(s_standing, .str s_bad)]
theorem kd_lt {x : Nat} (h : x < 8) : kd x = .ins 0 [(s_standing, .int x)] := if_pos (by omega)
def rk1 (x : Nat) (r : Str) : Nat := if x < 100 then 0 else if x = 100 then (if r = s_keep then 1 else 0) else 2
theorem rk1_lt {x : Nat} {r : Str} (h : x < 8) : rk1 x r = 0 := if_pos (by omega)
def rk2 (x y : Nat) (r : Str) : Nat := Nat.max (rk1 x r) (rk1 y r)
def Ch (x n : Nat) : List Nat := if x < 100 then [x] else List.range n
theorem Ch_lt {x n : Nat} (h : x < 8) : Ch x n = [x] := if_pos (by omega)
def iD (i : Nat) : D := .int (i : Int)
theorem kind_ok (k : Nat) {x : Nat} (h : Kd x) : callN T F (k + 3) 12 [dN x] [] = .ok (kd x) [] := by
  rcases h with h | rfl | rfl
  · rw [dN_lt h, kd_lt h]; kernel_rfl
  · kernel_rfl
  · kernel_rfl
section
variable {r0 r1 r2 r3 r4 r5 r6 r7 r8 : Str}
def eP (v0 : D) (w : Int) (s : Str) (x y : Nat) (s5 s6 s7 s8 : Slot) : Ev := [.val v0, .val (.int w), .val (.str s), .val (dN x), .val (dN y), s5, s6, s7, s8, .no, .no, .no, .no, .no, .no]
def p7 : MP.S := .set 7 (.blt .max (.cons (.blt .int (.cons (.mth (.var 5) s_rank (.cons (.var 0) .nil)) .nil)) (.cons (.blt .int (.cons (.mth (.var 6) s_rank (.cons (.var 0) .nil)) .nil)) .nil)))
theorem p7_ok (k : Nat) {w : Int} {s : Str} {x y : Nat} (hx : Kd x) (hy : Kd y) (h2 : r2 ∈ R2) : MP.exec T (callN T F (k + 3)) p7 (eP (ownD r0 r1 r2 r3 r4 r5 r6 r7 r8) w s x y (.val (kd x)) (.val (kd y)) .no .no) [] = .nx (eP (ownD r0 r1 r2 r3 r4 r5 r6 r7 r8) w s x y (.val (kd x)) (.val (kd y)) (.val (iD (rk2 x y r2))) .no) [] := by
  simp only [R2, List.mem_cons, List.mem_nil_iff, or_false] at h2
  unfold rk2
  rcases hx with hx | rfl | rfl <;> rcases hy with hy | rfl | rfl
  · rw [rk1_lt hx, rk1_lt hy, kd_lt hx, kd_lt hy]; rcases h2 with rfl | rfl <;> kernel_rfl
  · rw [rk1_lt hx, kd_lt hx]; rcases h2 with rfl | rfl <;> kernel_rfl
  · rw [rk1_lt hx, kd_lt hx]; rcases h2 with rfl | rfl <;> kernel_rfl
  · rw [rk1_lt hy, kd_lt hy]; rcases h2 with rfl | rfl <;> kernel_rfl
  · rcases h2 with rfl | rfl <;> kernel_rfl
  · rcases h2 with rfl | rfl <;> kernel_rfl
  · rw [rk1_lt hy, kd_lt hy]; rcases h2 with rfl | rfl <;> kernel_rfl
  · rcases h2 with rfl | rfl <;> kernel_rfl
  · rcases h2 with rfl | rfl <;> kernel_rfl
theorem ch5 (k : Nat) {v0 v2 v3 v4 v6 v7 : D} {s9 s10 s11 s12 s13 s14 : Slot} {l : List D} {w : Int} {n x : Nat} (hw : Wd w n) (hx : Kd x) : ev T (callN T F (k + 3)) (.mth (.var 5) s_choices (.cons (.var 1) .nil)) (eA v0 (.int w) v2 v3 v4 (kd x) v6 v7 s9 s10 s11 s12 s13 s14 l) [] = .ok (.lst ((Ch x n).map iD)) [] := by
  rcases hx with hx | rfl | rfl
  · rw [kd_lt hx, Ch_lt hx]; kernel_rfl
  · rcases hw with ⟨rfl, rfl⟩ | ⟨rfl, rfl⟩ | ⟨rfl, rfl⟩ <;> kernel_rfl
  · rcases hw with ⟨rfl, rfl⟩ | ⟨rfl, rfl⟩ | ⟨rfl, rfl⟩ <;> kernel_rfl
theorem ch6 (k : Nat) {v0 v2 v3 v4 v5 v7 : D} {s9 s10 s11 s12 s13 s14 : Slot} {l : List D} {w : Int} {n x : Nat} (hw : Wd w n) (hx : Kd x) : ev T (callN T F (k + 3)) (.mth (.var 6) s_choices (.cons (.var 1) .nil)) (eA v0 (.int w) v2 v3 v4 v5 (kd x) v7 s9 s10 s11 s12 s13 s14 l) [] = .ok (.lst ((Ch x n).map iD)) [] := by
  rcases hx with hx | rfl | rfl
  · rw [kd_lt hx, Ch_lt hx]; kernel_rfl
  · rcases hw with ⟨rfl, rfl⟩ | ⟨rfl, rfl⟩ | ⟨rfl, rfl⟩ <;> kernel_rfl
  · rcases hw with ⟨rfl, rfl⟩ | ⟨rfl, rfl⟩ | ⟨rfl, rfl⟩ <;> kernel_rfl
theorem tk_ok (k : Nat) {w : Int} {n x : Nat} (hw : Wd w n) (hx : Kd x) : callN T F (k + 3) 15 [.str s_choose, dN x, .int w] [] = .ok (.lst ((Ch x n).map iD)) [] := by
  rcases hx with hx | rfl | rfl
  · rw [dN_lt hx, Ch_lt hx]; kernel_rfl
  · rcases hw with ⟨rfl, rfl⟩ | ⟨rfl, rfl⟩ | ⟨rfl, rfl⟩ <;> kernel_rfl
  · rcases hw with ⟨rfl, rfl⟩ | ⟨rfl, rfl⟩ | ⟨rfl, rfl⟩ <;> kernel_rfl
end
theorem Ch_mem {x n i : Nat} (hx : Kd x) (hn : n = 2 ∨ n = 4 ∨ n = 8) (h : i ∈ Ch x n) : i < 8 := by
  unfold Ch at h
  split at h
  · rw [List.mem_singleton.mp h]
    rcases hx with hx | hx | hx <;> omega
  · have := List.mem_range.mp h
    omega
theorem Ch_len {x n : Nat} (hn : n = 2 ∨ n = 4 ∨ n = 8) : (Ch x n).length ≤ 8 := by
  unfold Ch
  split
  · exact Nat.le_of_ble_eq_true rfl
  · rw [List.length_range]; omega
/-! the inner bodies -/
def st11 : MP.S := .set 11 (.call 13 (.cons (.var 2) (.cons (.var 9) (.cons (.var 10) .nil))))
def st12 : MP.S := .set 12 (.bin .mod (.var 11) (.idx (.glo 1) (.var 1)))
def st13 : MP.S := .set 13 (.lst (.cons (.idx (.lst (.cons (.var 12) (.cons (.cst (.str s_any)) (.cons (.cst (.str s_bad)) .nil)))) (.var 7)) .nil))
def stif : MP.S := .iff (.and (.v (.cmp .eq (.blt .len (.cons (.var 2) .nil)) (.cst (.int (2))))) (.v (.cmp .ne (.var 11) (.var 12)))) (.cons (.set 13 (.call 14 (.cons (.idx (.var 0) (.cst (.str s_over))) (.cons (.var 1) (.cons (.var 12) .nil))))) .nil) .nil
def stfor : MP.S := .forr (.nm 14) (.val (.var 13)) (fB 14 8)
def bA : Ss := .cons st11 (.cons st12 (.cons st13 (.cons stif (.cons stfor (.cons (.wip [14]) (.cons (.wip [10, 11, 12, 13, 14]) .nil))))))
theorem tglo : T.glo 1 = .tup [.int 1, .int 2, .int 4, .int 8] := by kernel_rfl
theorem tmeth : T.meth 3 "__getitem__" = some 26 := by kernel_rfl
theorem pk_at {rk : Nat} (h : rk ≤ 2) (wd : Int) : L2.atI [D.int wd, .str s_any, .str s_bad] (rk : Int) = some (pk rk wd) := by
  match rk, h with
  | 0, _ => rfl
  | 1, _ => rfl
  | 2, _ => rfl
def addAll (l o : List D) : List D := o.foldl add1 l
section
variable {Φ : Nat → List D → MH → MP.R D}
theorem for14 {v0 v1 v2 v3 v4 v5 v6 v7 : D} {s9 s10 s11 s12 : Slot} {l os : List D} (h : Good l) (ho : Good os) (hl : l.length + os.length < lim) :
    MP.exec T Φ stfor (eA v0 v1 v2 v3 v4 v5 v6 v7 s9 s10 s11 s12 (.val (.lst os)) .no l) [] = .nx (eA v0 v1 v2 v3 v4 v5 v6 v7 s9 s10 s11 s12 (.val (.lst os)) .no (addAll l os)) [] ∧ Good (addAll l os) ∧ (addAll l os).length ≤ l.length + os.length := by
  obtain ⟨q1, q2, q3⟩ := loop_fold (f := fF T Φ 14 (fB 14 8)) (E := fun l => eA v0 v1 v2 v3 v4 v5 v6 v7 s9 s10 s11 s12 (.val (.lst os)) .no l) (g := add1) (I := fun i l' => Good l' ∧ l'.length ≤ l.length + i) (h := []) os 0 l (fun d l' j m z ⟨g1, g2⟩ => ⟨a14 g1 (ho d m) (by omega), add1_good g1 (ho d m), by have := add1_len (l := l') (d := d); omega⟩) ⟨h, by omega⟩
  exact ⟨(ex_forx (ds := os) rfl).trans q1, q2, by unfold addAll; omega⟩
theorem for11 {v0 v1 v2 v3 v4 : D} {s6 s7 s8 s9 : Slot} {l os : List D} (h : Good l) (ho : Good os) (hl : l.length + os.length < lim) :
    MP.exec T Φ (.forr (.nm 11) (.val (.var 10)) (fB 11 5)) (eB v0 v1 v2 v3 v4 s6 s7 s8 s9 (.val (.lst os)) .no l) [] = .nx (eB v0 v1 v2 v3 v4 s6 s7 s8 s9 (.val (.lst os)) .no (addAll l os)) [] ∧ Good (addAll l os) ∧ (addAll l os).length ≤ l.length + os.length := by
  obtain ⟨q1, q2, q3⟩ := loop_fold (f := fF T Φ 11 (fB 11 5)) (E := fun l => eB v0 v1 v2 v3 v4 s6 s7 s8 s9 (.val (.lst os)) .no l) (g := add1) (I := fun i l' => Good l' ∧ l'.length ≤ l.length + i) (h := []) os 0 l (fun d l' j m z ⟨g1, g2⟩ => ⟨b11 g1 (ho d m) (by omega), add1_good g1 (ho d m), by have := add1_len (l := l') (d := d); omega⟩) ⟨h, by omega⟩
  exact ⟨(ex_forx (ds := os) rfl).trans q1, q2, by unfold addAll; omega⟩
def SOk (s : Str) : Prop := s.length ≤ lim
theorem bodyA {r0 r1 r2 r3 r4 r5 r6 r7 r8 : Str} {w : Int} {n rk a b : Nat} {s : Str} {v3 v4 v5 v6 : D} {l : List D} (hw : Wd w n) (hrk : rk ≤ 2) (hr : r0 ∈ R0) (hs : s.length ≤ lim) (hg : Good l) (hl : l.length + 8 < lim)
    (hex : Φ 13 [.str s, .int (a : Int), .int (b : Int)] [] = .ok (.int (exI s a b)) []) (har : ∀ wd, Φ 14 [.str r0, .int w, .int wd] [] = .ok (.lst (ar r0 n wd)) []) (hgo : Φ 26 [ownD r0 r1 r2 r3 r4 r5 r6 r7 r8, .str s_over] [] = .ok (.str r0) []) :
    MP.execs T Φ bA (eA (ownD r0 r1 r2 r3 r4 r5 r6 r7 r8) (.int w) (.str s) v3 v4 v5 v6 (iD rk) (.val (iD a)) (.val (iD b)) .no .no .no .no l) [] = .nx (eA (ownD r0 r1 r2 r3 r4 r5 r6 r7 r8) (.int w) (.str s) v3 v4 v5 v6 (iD rk) (.val (iD a)) .no .no .no .no .no (addAll l (outs s n r0 rk a b))) [] ∧ Good (addAll l (outs s n r0 rk a b)) ∧ (addAll l (outs s n r0 rk a b)).length ≤ l.length + 8 := by
  have hn : (0 : Int) < n := by rcases hw.n with h | h | h <;> omega
  have hn' : 0 < n := by omega
  have h2l : 2 ≤ lim := by decide
  have hat := hw.at
  have hpk := pk_at hrk (exI s a b % n)
  have q1 : MP.exec T Φ st11 (eA (ownD r0 r1 r2 r3 r4 r5 r6 r7 r8) (.int w) (.str s) v3 v4 v5 v6 (iD rk) (.val (iD a)) (.val (iD b)) .no .no .no .no l) [] = .nx (eA (ownD r0 r1 r2 r3 r4 r5 r6 r7 r8) (.int w) (.str s) v3 v4 v5 v6 (iD rk) (.val (iD a)) (.val (iD b)) (.val (.int (exI s a b))) .no .no .no l) [] := by
    simp [st11, eA, iD, MP.execs, MP.exec, ev, evs, evT, opd, vo, vos, evOs, view, R.bind, R.of, R.st, cmpD, truD, tb_dfl, wipeE, bltD, binD, idxD, hex]
  have q2 : MP.exec T Φ st12 (eA (ownD r0 r1 r2 r3 r4 r5 r6 r7 r8) (.int w) (.str s) v3 v4 v5 v6 (iD rk) (.val (iD a)) (.val (iD b)) (.val (.int (exI s a b))) .no .no .no l) [] = .nx (eA (ownD r0 r1 r2 r3 r4 r5 r6 r7 r8) (.int w) (.str s) v3 v4 v5 v6 (iD rk) (.val (iD a)) (.val (iD b)) (.val (.int (exI s a b))) (.val (.int (exI s a b % n))) .no .no l) [] := by
    simp [st12, eA, iD, MP.execs, MP.exec, ev, evs, evT, opd, vo, vos, evOs, view, R.bind, R.of, R.st, cmpD, truD, tb_dfl, wipeE, bltD, binD, idxD, tglo, hat, hn, hn']
  have q3 : MP.exec T Φ st13 (eA (ownD r0 r1 r2 r3 r4 r5 r6 r7 r8) (.int w) (.str s) v3 v4 v5 v6 (iD rk) (.val (iD a)) (.val (iD b)) (.val (.int (exI s a b))) (.val (.int (exI s a b % n))) .no .no l) [] = .nx (eA (ownD r0 r1 r2 r3 r4 r5 r6 r7 r8) (.int w) (.str s) v3 v4 v5 v6 (iD rk) (.val (iD a)) (.val (iD b)) (.val (.int (exI s a b))) (.val (.int (exI s a b % n))) (.val (.lst [pk rk (exI s a b % n)])) .no l) [] := by
    simp [st13, eA, iD, MP.execs, MP.exec, ev, evs, evT, opd, vo, vos, evOs, view, R.bind, R.of, R.st, cmpD, truD, tb_dfl, wipeE, bltD, binD, idxD, hpk, lim]
  have q4 : MP.exec T Φ stif (eA (ownD r0 r1 r2 r3 r4 r5 r6 r7 r8) (.int w) (.str s) v3 v4 v5 v6 (iD rk) (.val (iD a)) (.val (iD b)) (.val (.int (exI s a b))) (.val (.int (exI s a b % n))) (.val (.lst [pk rk (exI s a b % n)])) .no l) [] = .nx (eA (ownD r0 r1 r2 r3 r4 r5 r6 r7 r8) (.int w) (.str s) v3 v4 v5 v6 (iD rk) (.val (iD a)) (.val (iD b)) (.val (.int (exI s a b))) (.val (.int (exI s a b % n))) (.val (.lst (outs s n r0 rk a b))) .no l) [] := by
    have c0 : ((s.length : Int) = 2) ↔ s.length = 2 := by omega
    by_cases c1 : s.length = 2
    · by_cases c2 : exI s a b = exI s a b % n
      · simp [stif, eA, iD, MP.execs, MP.exec, ev, evs, evT, opd, vo, vos, evOs, view, R.bind, R.of, R.st, cmpD, truD, tb_dfl, wipeE, bltD, binD, idxD, outs, hs, h2l, c0, c1, ← c2, eqO, eqD, fit]
      · simp [stif, eA, iD, MP.execs, MP.exec, ev, evs, evT, opd, vo, vos, evOs, view, R.bind, R.of, R.st, cmpD, truD, tb_dfl, wipeE, bltD, binD, idxD, outs, hs, h2l, c0, c1, c2, eqO, eqD, fit, ownR, tmeth, hgo, har]
    · simp [stif, eA, iD, MP.execs, MP.exec, ev, evs, evT, opd, vo, vos, evOs, view, R.bind, R.of, R.st, cmpD, truD, tb_dfl, wipeE, bltD, binD, idxD, outs, hs, c0, c1, eqO, eqD, fit]
  obtain ⟨q5, g5, l5⟩ := for14 (Φ := Φ) (v0 := ownD r0 r1 r2 r3 r4 r5 r6 r7 r8) (v1 := .int w) (v2 := .str s) (v3 := v3) (v4 := v4) (v5 := v5) (v6 := v6) (v7 := iD rk) (s9 := .val (iD a)) (s10 := .val (iD b)) (s11 := .val (.int (exI s a b))) (s12 := .val (.int (exI s a b % n))) hg (outs_good (s := s) (n := n) (rk := rk) (a := a) (b := b) hr) (by have := outs_len (s := s) (r := r0) (rk := rk) (a := a) (b := b) hw.n; omega)
  have hol := outs_len (s := s) (r := r0) (rk := rk) (a := a) (b := b) hw.n
  refine ⟨?_, g5, by omega⟩
  exact (execs_nx q1).trans ((execs_nx q2).trans ((execs_nx q3).trans ((execs_nx q4).trans ((execs_nx q5).trans rfl))))
theorem rk2_bad {x y : Nat} {r : Str} (hx : Kd x) (hy : Kd y) (h : x = 101 ∨ y = 101) : rk2 x y r = 2 := by
  unfold rk2 rk1
  rcases hx with hx | rfl | rfl <;> rcases hy with hy | rfl | rfl
  · omega
  · omega
  · rw [if_pos (show x < 100 by omega)]; rfl
  · omega
  · omega
  · by_cases c : r = s_keep <;> simp [c]
  · rw [if_pos (show y < 100 by omega)]; rfl
  · by_cases c : r = s_keep <;> simp [c]
  · rfl
theorem rk2_any {x y : Nat} {r : Str} (hx : Kd x) (hy : Kd y) (h : ¬ (x = 101 ∨ y = 101)) (k : r = s_keep) (g : x = 100 ∨ y = 100) : rk2 x y r = 1 := by
  unfold rk2 rk1
  rcases hx with hx | rfl | rfl <;> rcases hy with hy | rfl | rfl
  · omega
  · rw [if_pos (show x < 100 by omega)]; simp [k]
  · omega
  · rw [if_pos (show y < 100 by omega)]; simp [k]
  · simp [k]
  · omega
  · omega
  · omega
  · omega
theorem rk2_no {x y : Nat} {r : Str} (hx : Kd x) (hy : Kd y) (h : ¬ (x = 101 ∨ y = 101)) (k : ¬ (r = s_keep ∧ (x = 100 ∨ y = 100))) : rk2 x y r = 0 := by
  unfold rk2 rk1
  rcases hx with hx | rfl | rfl <;> rcases hy with hy | rfl | rfl
  · rw [if_pos (show x < 100 by omega), if_pos (show y < 100 by omega)]; rfl
  · have : ¬ r = s_keep := fun z => k ⟨z, .inr rfl⟩
    rw [if_pos (show x < 100 by omega)]; simp [this]
  · omega
  · have : ¬ r = s_keep := fun z => k ⟨z, .inl rfl⟩
    rw [if_pos (show y < 100 by omega)]; simp [this]
  · have : ¬ r = s_keep := fun z => k ⟨z, .inl rfl⟩
    simp [this]
  · omega
  · omega
  · omega
  · omega
theorem rk2_le {x y : Nat} {r : Str} (hx : Kd x) (hy : Kd y) : rk2 x y r ≤ 2 := by
  by_cases h : x = 101 ∨ y = 101
  · rw [rk2_bad hx hy h]; omega
  · by_cases k : r = s_keep ∧ (x = 100 ∨ y = 100)
    · rw [rk2_any hx hy h k.1 k.2]; omega
    · rw [rk2_no hx hy h k]; omega
theorem dN_view {x : Nat} (hx : Kd x) (h : MH) : view (dN x) h = some (dN x) := by
  rcases hx with hx | rfl | rfl
  · rw [dN_lt hx]; rfl
  · rfl
  · rfl
theorem dN_bad? {x : Nat} (hx : Kd x) : eqO (dN x) (.str s_bad) = some (decide (x = 101)) := by
  rcases hx with hx | rfl | rfl
  · rw [dN_lt hx, decide_eq_false (by omega)]; kernel_rfl
  · kernel_rfl
  · kernel_rfl
theorem dN_any? {x : Nat} (hx : Kd x) : eqO (dN x) (.str s_any) = some (decide (x = 100)) := by
  rcases hx with hx | rfl | rfl
  · rw [dN_lt hx, decide_eq_false (by omega)]; kernel_rfl
  · kernel_rfl
  · kernel_rfl
def t8 : MP.S := .set 8 (.call 16 (.cons (.var 2) (.cons (.var 6) (.cons (.var 7) .nil))))
def t9 : MP.S := .set 9 (.bin .mod (.blt .int (.cons (.var 8) .nil)) (.call 3 (.cons (.var 1) .nil)))
def t10 : MP.S := .set 10 (.lst (.cons (.var 9) .nil))
def cL : MP.T := .and (.v (.cmp .eq (.blt .len (.cons (.var 2) .nil)) (.cst (.int (2))))) (.v (.cmp .ne (.var 8) (.var 9)))
def cBd : MP.T := .or (.v (.cmp .eq (.var 3) (.cst (.str s_bad)))) (.v (.cmp .eq (.var 4) (.cst (.str s_bad))))
def cKp : MP.T := .and (.v (.cmp .eq (.idx (.var 0) (.cst (.str s_step))) (.cst (.str s_keep)))) (.or (.v (.cmp .eq (.var 3) (.cst (.str s_any)))) (.v (.cmp .eq (.var 4) (.cst (.str s_any)))))
def tK : MP.S := .iff cKp (.cons (.set 10 (.lst (.cons (.cst (.str s_any)) .nil))) .nil) .nil
def tB : MP.S := .iff cBd (.cons (.set 10 (.lst (.cons (.cst (.str s_bad)) .nil))) .nil) (.cons tK .nil)
def tif : MP.S := .iff cL (.cons (.set 10 (.call 17 (.cons (.idx (.var 0) (.cst (.str s_over))) (.cons (.var 1) (.cons (.var 9) .nil))))) .nil) (.cons tB .nil)
def bB : Ss := .cons t8 (.cons t9 (.cons t10 (.cons tif (.cons (.forr (.nm 11) (.val (.var 10)) (fB 11 5)) (.cons (.wip [11]) (.cons (.wip [7, 8, 9, 10, 11]) .nil))))))
theorem bk_over {r0 r1 r2 r3 r4 r5 r6 r7 r8 : Str} : idxD (bookD r0 r1 r2 r3 r4 r5 r6 r7 r8) (.str s_over) = some (.str r0) := by kernel_rfl
theorem bk_step2 {r0 r1 r2 r3 r4 r5 r6 r7 r8 : Str} : idxD (bookD r0 r1 r2 r3 r4 r5 r6 r7 r8) (.str s_step) = some (.str r2) := by kernel_rfl
theorem cBd_ok {v0 v1 v2 dx dy : D} {s6 s7 s8 s9 s10 s11 : Slot} {l : List D} {p q : Bool} (vx : ∀ h, view dx h = some dx) (vy : ∀ h, view dy h = some dy) (e1 : eqO dx (.str s_bad) = some p) (e2 : eqO dy (.str s_bad) = some q) : evT T Φ cBd (eB v0 v1 v2 dx dy s6 s7 s8 s9 s10 s11 l) [] = .ok (p || q) [] := by
  have vx := vx []
  have vy := vy []
  unfold view at vx vy
  simp only [List.getElem?_nil] at vx vy
  cases p <;> simp [cBd, eB, MP.execs, MP.exec, ev, evs, evT, opd, vo, vos, evOs, view, R.bind, R.of, R.st, cmpD, truD, tb_dfl, wipeE, bltD, binD, idxD, vx, vy, e1, e2]
theorem cKp_ok {r0 r1 r2 r3 r4 r5 r6 r7 r8 : Str} {v1 v2 dx dy : D} {s6 s7 s8 s9 s10 s11 : Slot} {l : List D} {p q : Bool} (vx : ∀ h, view dx h = some dx) (vy : ∀ h, view dy h = some dy) (e1 : eqO dx (.str s_any) = some p) (e2 : eqO dy (.str s_any) = some q) : evT T Φ cKp (eB (bookD r0 r1 r2 r3 r4 r5 r6 r7 r8) v1 v2 dx dy s6 s7 s8 s9 s10 s11 l) [] = .ok (decide (r2 = s_keep) && (p || q)) [] := by
  have vx := vx []
  have vy := vy []
  unfold view at vx vy
  simp only [List.getElem?_nil] at vx vy
  have gk := bk_step2 (r0 := r0) (r1 := r1) (r2 := r2) (r3 := r3) (r4 := r4) (r5 := r5) (r6 := r6) (r7 := r7) (r8 := r8)
  have e3 : eqO (.str r2) (.str s_keep) = some (decide (r2 = s_keep)) := rfl
  unfold idxD at gk
  generalize decide (r2 = s_keep) = k at e3
  cases k <;> cases p <;> simp [cKp, eB, MP.execs, MP.exec, ev, evs, evT, opd, vo, vos, evOs, view, R.bind, R.of, R.st, cmpD, truD, tb_dfl, wipeE, bltD, binD, idxD, vx, vy, e1, e2, gk, e3]
theorem bodyB {r0 r1 r2 r3 r4 r5 r6 r7 r8 : Str} {w : Int} {n a b x y : Nat} {s : Str} {l : List D} (hw : Wd w n) (hx : Kd x) (hy : Kd y) (hr : r0 ∈ R0) (hs : s.length ≤ lim) (hg : Good l) (hl : l.length + 8 < lim)
    (hex : Φ 16 [.str s, .int (a : Int), .int (b : Int)] [] = .ok (.int (exI s a b)) []) (har : ∀ wd, Φ 17 [.str r0, .int w, .int wd] [] = .ok (.lst (ar r0 n wd)) []) (hsz : Φ 3 [.int w] [] = .ok (.int (n : Int)) []) :
    MP.execs T Φ bB (eB (bookD r0 r1 r2 r3 r4 r5 r6 r7 r8) (.int w) (.str s) (dN x) (dN y) (.val (iD a)) (.val (iD b)) .no .no .no .no l) [] = .nx (eB (bookD r0 r1 r2 r3 r4 r5 r6 r7 r8) (.int w) (.str s) (dN x) (dN y) (.val (iD a)) .no .no .no .no .no (addAll l (outs s n r0 (rk2 x y r2) a b))) [] ∧ Good (addAll l (outs s n r0 (rk2 x y r2) a b)) ∧ (addAll l (outs s n r0 (rk2 x y r2) a b)).length ≤ l.length + 8 := by
  have hn : (0 : Int) < n := by rcases hw.n with h | h | h <;> omega
  have hn' : 0 < n := by omega
  have h2l : 2 ≤ lim := by decide
  have q1 : MP.exec T Φ t8 (eB (bookD r0 r1 r2 r3 r4 r5 r6 r7 r8) (.int w) (.str s) (dN x) (dN y) (.val (iD a)) (.val (iD b)) .no .no .no .no l) [] = .nx (eB (bookD r0 r1 r2 r3 r4 r5 r6 r7 r8) (.int w) (.str s) (dN x) (dN y) (.val (iD a)) (.val (iD b)) (.val (.int (exI s a b))) .no .no .no l) [] := by
    simp [t8, eB, iD, MP.execs, MP.exec, ev, evs, evT, opd, vo, vos, evOs, view, R.bind, R.of, R.st, cmpD, truD, tb_dfl, wipeE, bltD, binD, idxD, hex]
  have q2 : MP.exec T Φ t9 (eB (bookD r0 r1 r2 r3 r4 r5 r6 r7 r8) (.int w) (.str s) (dN x) (dN y) (.val (iD a)) (.val (iD b)) (.val (.int (exI s a b))) .no .no .no l) [] = .nx (eB (bookD r0 r1 r2 r3 r4 r5 r6 r7 r8) (.int w) (.str s) (dN x) (dN y) (.val (iD a)) (.val (iD b)) (.val (.int (exI s a b))) (.val (.int (exI s a b % n))) .no .no l) [] := by
    simp [t9, eB, iD, MP.execs, MP.exec, ev, evs, evT, opd, vo, vos, evOs, view, R.bind, R.of, R.st, cmpD, truD, tb_dfl, wipeE, bltD, binD, idxD, hsz, hn, hn']
  have q3 : MP.exec T Φ t10 (eB (bookD r0 r1 r2 r3 r4 r5 r6 r7 r8) (.int w) (.str s) (dN x) (dN y) (.val (iD a)) (.val (iD b)) (.val (.int (exI s a b))) (.val (.int (exI s a b % n))) .no .no l) [] = .nx (eB (bookD r0 r1 r2 r3 r4 r5 r6 r7 r8) (.int w) (.str s) (dN x) (dN y) (.val (iD a)) (.val (iD b)) (.val (.int (exI s a b))) (.val (.int (exI s a b % n))) (.val (.lst [.int (exI s a b % n)])) .no l) [] := by
    simp [t10, eB, iD, MP.execs, MP.exec, ev, evs, evT, opd, vo, vos, evOs, view, R.bind, R.of, R.st, cmpD, truD, tb_dfl, wipeE, bltD, binD, idxD, lim]
  have ev1 : ∀ e m : Int, evT T Φ cL (eB (bookD r0 r1 r2 r3 r4 r5 r6 r7 r8) (.int w) (.str s) (dN x) (dN y) (.val (iD a)) (.val (iD b)) (.val (.int e)) (.val (.int m)) (.val (.lst [.int m])) .no l) [] = .ok (decide (s.length = 2 ∧ ¬ e = m)) [] := fun e m => by
    have c0 : ((s.length : Int) = 2) ↔ s.length = 2 := by omega
    by_cases c1 : s.length = 2
    · by_cases c2 : e = m
      · simp [cL, eB, iD, MP.execs, MP.exec, ev, evs, evT, opd, vo, vos, evOs, view, R.bind, R.of, R.st, cmpD, truD, tb_dfl, wipeE, bltD, binD, idxD, hs, h2l, c0, c1, c2, eqO, eqD, fit]
      · simp [cL, eB, iD, MP.execs, MP.exec, ev, evs, evT, opd, vo, vos, evOs, view, R.bind, R.of, R.st, cmpD, truD, tb_dfl, wipeE, bltD, binD, idxD, hs, h2l, c0, c1, c2, eqO, eqD, fit]
    · simp [cL, eB, iD, MP.execs, MP.exec, ev, evs, evT, opd, vo, vos, evOs, view, R.bind, R.of, R.st, cmpD, truD, tb_dfl, wipeE, bltD, binD, idxD, hs, c0, c1, eqO, eqD, fit]
  have ev2 : ∀ e m : Int, evT T Φ cBd (eB (bookD r0 r1 r2 r3 r4 r5 r6 r7 r8) (.int w) (.str s) (dN x) (dN y) (.val (iD a)) (.val (iD b)) (.val (.int e)) (.val (.int m)) (.val (.lst [.int m])) .no l) [] = .ok (decide (x = 101 ∨ y = 101)) [] := fun e m => by
    rw [Bool.decide_or]
    exact cBd_ok (dN_view hx) (dN_view hy) (dN_bad? hx) (dN_bad? hy)
  have ev3 : ∀ e m : Int, evT T Φ cKp (eB (bookD r0 r1 r2 r3 r4 r5 r6 r7 r8) (.int w) (.str s) (dN x) (dN y) (.val (iD a)) (.val (iD b)) (.val (.int e)) (.val (.int m)) (.val (.lst [.int m])) .no l) [] = .ok (decide (r2 = s_keep ∧ (x = 100 ∨ y = 100))) [] := fun e m => by
    rw [Bool.decide_and, Bool.decide_or]
    exact cKp_ok (dN_view hx) (dN_view hy) (dN_any? hx) (dN_any? hy)
  have ev4 : ∀ e m : Int, MP.exec T Φ (.set 10 (.call 17 (.cons (.idx (.var 0) (.cst (.str s_over))) (.cons (.var 1) (.cons (.var 9) .nil))))) (eB (bookD r0 r1 r2 r3 r4 r5 r6 r7 r8) (.int w) (.str s) (dN x) (dN y) (.val (iD a)) (.val (iD b)) (.val (.int e)) (.val (.int m)) (.val (.lst [.int m])) .no l) [] = .nx (eB (bookD r0 r1 r2 r3 r4 r5 r6 r7 r8) (.int w) (.str s) (dN x) (dN y) (.val (iD a)) (.val (iD b)) (.val (.int e)) (.val (.int m)) (.val (.lst (ar r0 n m))) .no l) [] := fun e m => by
    have gk := bk_over (r0 := r0) (r1 := r1) (r2 := r2) (r3 := r3) (r4 := r4) (r5 := r5) (r6 := r6) (r7 := r7) (r8 := r8)
    unfold idxD at gk
    simp [eB, iD, MP.execs, MP.exec, ev, evs, evT, opd, vo, vos, evOs, view, R.bind, R.of, R.st, cmpD, truD, tb_dfl, wipeE, bltD, binD, idxD, gk, har]
  have q4 : MP.exec T Φ tif (eB (bookD r0 r1 r2 r3 r4 r5 r6 r7 r8) (.int w) (.str s) (dN x) (dN y) (.val (iD a)) (.val (iD b)) (.val (.int (exI s a b))) (.val (.int (exI s a b % n))) (.val (.lst [.int (exI s a b % n)])) .no l) [] = .nx (eB (bookD r0 r1 r2 r3 r4 r5 r6 r7 r8) (.int w) (.str s) (dN x) (dN y) (.val (iD a)) (.val (iD b)) (.val (.int (exI s a b))) (.val (.int (exI s a b % n))) (.val (.lst (outs s n r0 (rk2 x y r2) a b))) .no l) [] := by
    refine (ex_iff (ev1 _ _)).trans ?_
    by_cases c : s.length = 2 ∧ ¬ exI s a b = exI s a b % n
    · rw [if_pos (decide_eq_true c), show outs s n r0 (rk2 x y r2) a b = ar r0 n (exI s a b % n) from if_pos c]
      exact execs_one (ev4 _ _)
    · rw [if_neg (by rw [decide_eq_false c]; exact Bool.false_ne_true), show outs s n r0 (rk2 x y r2) a b = [pk (rk2 x y r2) (exI s a b % n)] from if_neg c]
      refine execs_one ((ex_iff (ev2 _ _)).trans ?_)
      by_cases c1 : x = 101 ∨ y = 101
      · rw [if_pos (decide_eq_true c1), rk2_bad hx hy c1]
        simp [eB, iD, pk, MP.execs, MP.exec, ev, evs, evT, opd, vo, vos, evOs, view, R.bind, R.of, R.st, cmpD, truD, tb_dfl, wipeE, bltD, binD, idxD, lim]
      · rw [if_neg (by rw [decide_eq_false c1]; exact Bool.false_ne_true)]
        refine execs_one ((ex_iff (ev3 _ _)).trans ?_)
        by_cases c2 : r2 = s_keep ∧ (x = 100 ∨ y = 100)
        · rw [if_pos (decide_eq_true c2), rk2_any hx hy c1 c2.1 c2.2]
          simp [eB, iD, pk, MP.execs, MP.exec, ev, evs, evT, opd, vo, vos, evOs, view, R.bind, R.of, R.st, cmpD, truD, tb_dfl, wipeE, bltD, binD, idxD, lim]
        · rw [if_neg (by rw [decide_eq_false c2]; exact Bool.false_ne_true), rk2_no hx hy c1 c2]
          rfl
  obtain ⟨q5, g5, l5⟩ := for11 (Φ := Φ) (v0 := bookD r0 r1 r2 r3 r4 r5 r6 r7 r8) (v1 := .int w) (v2 := .str s) (v3 := dN x) (v4 := dN y) (s6 := .val (iD a)) (s7 := .val (iD b)) (s8 := .val (.int (exI s a b))) (s9 := .val (.int (exI s a b % n))) hg (outs_good (s := s) (n := n) (rk := rk2 x y r2) (a := a) (b := b) hr) (by have := outs_len (s := s) (r := r0) (rk := rk2 x y r2) (a := a) (b := b) hw.n; omega)
  have hol := outs_len (s := s) (r := r0) (rk := rk2 x y r2) (a := a) (b := b) hw.n
  refine ⟨?_, g5, by omega⟩
  exact (execs_nx q1).trans ((execs_nx q2).trans ((execs_nx q3).trans ((execs_nx q4).trans ((execs_nx q5).trans rfl))))
end
/-! the loops -/
def innr (s : Str) (n : Nat) (r : Str) (rk y : Nat) (l : List D) (a : Nat) : List D := (Ch y n).foldl (fun l b => addAll l (outs s n r rk a b)) l
def resL (s : Str) (n : Nat) (r : Str) (rk x y : Nat) : List D := (Ch x n).foldl (innr s n r rk y) []
def st10 : MP.S := .forr (.nm 10) (.val (.mth (.var 6) s_choices (.cons (.var 1) .nil))) bA
def b9 : Ss := .cons st10 (.cons (.wip [10, 11, 12, 13, 14]) (.cons (.wip [9, 10, 11, 12, 13, 14]) .nil))
def st9 : MP.S := .forr (.nm 9) (.val (.mth (.var 5) s_choices (.cons (.var 1) .nil))) b9
def bSO : Ss := .cons (.set 5 (.call 12 (.cons (.var 3) .nil))) (.cons (.set 6 (.call 12 (.cons (.var 4) .nil))) (.cons p7 (.cons (.setN 8 (.lst .nil)) (.cons st9 (.cons (.wip [9, 10, 11, 12, 13, 14]) (.cons (.frz 8) (.cons (.ret (.var 8)) .nil)))))))
theorem bSO_eq : f7.body = bSO := by kernel_rfl
theorem Fso : F 7 = some f7 := rfl
def t7 : MP.S := .forr (.nm 7) (.val (.call 15 (.cons (.cst (.str s_choose)) (.cons (.var 4) (.cons (.var 1) .nil))))) bB
def b6 : Ss := .cons t7 (.cons (.wip [7, 8, 9, 10, 11]) (.cons (.wip [6, 7, 8, 9, 10, 11]) .nil))
def t6 : MP.S := .forr (.nm 6) (.val (.call 15 (.cons (.cst (.str s_choose)) (.cons (.var 3) (.cons (.var 1) .nil))))) b6
def bST : Ss := .cons (.setN 5 (.lst .nil)) (.cons t6 (.cons (.wip [6, 7, 8, 9, 10, 11]) (.cons (.frz 5) (.cons (.ret (.var 5)) .nil))))
theorem bST_eq : f8.body = bST := by kernel_rfl
theorem Fst : F 8 = some f8 := rfl
section
variable {r0 r1 r2 r3 r4 r5 r6 r7 r8 : Str} {w : Int} {n x y : Nat} {s : Str}
theorem sg_len (hs : s ∈ signs) : s.length ≤ lim := by
  simp only [signs, List.mem_cons, List.mem_nil_iff, or_false] at hs
  rcases hs with rfl | rfl | rfl | rfl | rfl | rfl | rfl | rfl <;> decide +kernel
theorem opd_mth {Φ : Nat → List D → MH → MP.R D} {o : M} {m : Str} {l : Ms} {e : Ev} {d : D} (q : ev T Φ (.mth o m l) e [] = .ok d []) : opd (.mth o m l) (ev T Φ (.mth o m l) e []) e [] = .ok (.d d) [] := by
  rw [q]; rfl
theorem l10 (k : Nat) (hw : Wd w n) (hx : Kd x) (hy : Kd y) (hr : r0 ∈ R0) (hs : s ∈ signs) {a : Nat} (ha : a < 8) {l : List D} (hg : Good l) (hl : l.length ≤ 512) :
    MP.exec T (callN T F (k + 3)) st10 (eA (ownD r0 r1 r2 r3 r4 r5 r6 r7 r8) (.int w) (.str s) (dN x) (dN y) (kd x) (kd y) (iD (rk2 x y r2)) (.val (iD a)) .no .no .no .no .no l) [] = .nx (eA (ownD r0 r1 r2 r3 r4 r5 r6 r7 r8) (.int w) (.str s) (dN x) (dN y) (kd x) (kd y) (iD (rk2 x y r2)) (.val (iD a)) .no .no .no .no .no (innr s n r0 (rk2 x y r2) y l a)) [] ∧ Good (innr s n r0 (rk2 x y r2) y l a) ∧ (innr s n r0 (rk2 x y r2) y l a).length ≤ l.length + 64 := by
  have hlim : lim = 10000000 := rfl
  have hc := Ch_len (x := y) hw.n
  obtain ⟨q1, q2, q3⟩ := loop_foldM (f := fF T (callN T F (k + 3)) 10 bA) (E := fun l => (eA (ownD r0 r1 r2 r3 r4 r5 r6 r7 r8) (.int w) (.str s) (dN x) (dN y) (kd x) (kd y) (iD (rk2 x y r2)) (.val (iD a)) .no .no .no .no .no l)) (mk := iD) (g := fun l b => addAll l (outs s n r0 (rk2 x y r2) a b)) (I := fun i l' => Good l' ∧ l'.length ≤ l.length + 8 * i) (h := []) (Ch y n) 0 l (fun b l' j m z ⟨g1, g2⟩ => by
    have hb := Ch_mem hy hw.n m
    obtain ⟨e1, _⟩ := ex_ok (k + 2) hs ha hb
    obtain ⟨u1, u2, u3⟩ := bodyA (Φ := callN T F (k + 3)) (v3 := dN x) (v4 := dN y) (v5 := kd x) (v6 := kd y) (a := a) (b := b) (l := l') hw (rk2_le hx hy) hr (sg_len hs) g1 (by omega) e1 (fun wd => (ar_ok k hr hw wd).1) (get_over (k + 2) (r0 := r0) (r1 := r1) (r2 := r2) (r3 := r3) (r4 := r4) (r5 := r5) (r6 := r6) (r7 := r7) (r8 := r8))
    exact ⟨u1, u2, by omega⟩) ⟨hg, by omega⟩
  refine ⟨(ex_forv (x := .d (.lst ((Ch y n).map iD))) rfl (opd_mth (ch6 k hw hy)) rfl).trans q1, q2, ?_⟩
  show (innr s n r0 (rk2 x y r2) y l a).length ≤ _
  unfold innr
  omega
theorem l9 (k : Nat) (hw : Wd w n) (hx : Kd x) (hy : Kd y) (hr : r0 ∈ R0) (hs : s ∈ signs) :
    MP.exec T (callN T F (k + 3)) st9 (eA (ownD r0 r1 r2 r3 r4 r5 r6 r7 r8) (.int w) (.str s) (dN x) (dN y) (kd x) (kd y) (iD (rk2 x y r2)) .no .no .no .no .no .no []) [] = .nx (eA (ownD r0 r1 r2 r3 r4 r5 r6 r7 r8) (.int w) (.str s) (dN x) (dN y) (kd x) (kd y) (iD (rk2 x y r2)) .no .no .no .no .no .no (resL s n r0 (rk2 x y r2) x y)) [] ∧ Good (resL s n r0 (rk2 x y r2) x y) ∧ (resL s n r0 (rk2 x y r2) x y).length ≤ 512 := by
  have hc := Ch_len (x := x) hw.n
  obtain ⟨q1, q2, q3⟩ := loop_foldM (f := fF T (callN T F (k + 3)) 9 b9) (E := fun l => (eA (ownD r0 r1 r2 r3 r4 r5 r6 r7 r8) (.int w) (.str s) (dN x) (dN y) (kd x) (kd y) (iD (rk2 x y r2)) .no .no .no .no .no .no l)) (mk := iD) (g := innr s n r0 (rk2 x y r2) y) (I := fun i l' => Good l' ∧ l'.length ≤ 64 * i) (h := []) (Ch x n) 0 [] (fun a l' j m z ⟨g1, g2⟩ => by
    obtain ⟨u1, u2, u3⟩ := l10 (r0 := r0) (r1 := r1) (r2 := r2) (r3 := r3) (r4 := r4) (r5 := r5) (r6 := r6) (r7 := r7) (r8 := r8) k hw hx hy hr hs (Ch_mem hx hw.n m) g1 (by omega)
    exact ⟨(execs_nx u1).trans rfl, u2, by omega⟩) ⟨(fun _ z => nomatch z), by show 0 ≤ _; omega⟩
  refine ⟨(ex_forv (x := .d (.lst ((Ch x n).map iD))) rfl (opd_mth (ch5 k hw hx)) rfl).trans q1, q2, ?_⟩
  show (resL s n r0 (rk2 x y r2) x y).length ≤ _
  unfold resL
  omega
theorem step_ok (k : Nat) (h : Rul r0 r1 r2 r3 r4 r5 r6 r7 r8) (hw : Wd w n) (hx : Kd x) (hy : Kd y) (hs : s ∈ signs) : callN T F (k + 4) 7 [ownD r0 r1 r2 r3 r4 r5 r6 r7 r8, .int w, .str s, dN x, dN y] [] = .ok (.lst (resL s n r0 (rk2 x y r2) x y)) [] := by
  refine callN_of Fso rfl rfl (run_of bSO_eq rfl rfl ?_)
  have k1 := kind_ok k hx
  have k2 := kind_ok k hy
  have q1 : MP.exec T (callN T F (k + 3)) (.set 5 (.call 12 (.cons (.var 3) .nil))) (eP (ownD r0 r1 r2 r3 r4 r5 r6 r7 r8) w s x y .no .no .no .no) [] = .nx (eP (ownD r0 r1 r2 r3 r4 r5 r6 r7 r8) w s x y (.val (kd x)) .no .no .no) [] := by
    simp [eP, MP.exec, ev, evs, R.bind, R.st, tb_dfl, k1]
  have q2 : MP.exec T (callN T F (k + 3)) (.set 6 (.call 12 (.cons (.var 4) .nil))) (eP (ownD r0 r1 r2 r3 r4 r5 r6 r7 r8) w s x y (.val (kd x)) .no .no .no) [] = .nx (eP (ownD r0 r1 r2 r3 r4 r5 r6 r7 r8) w s x y (.val (kd x)) (.val (kd y)) .no .no) [] := by
    simp [eP, MP.exec, ev, evs, R.bind, R.st, tb_dfl, k2]
  have q3 := p7_ok (r0 := r0) (r1 := r1) (r2 := r2) (r3 := r3) (r4 := r4) (r5 := r5) (r6 := r6) (r7 := r7) (r8 := r8) k (w := w) (s := s) hx hy h.h2
  have q4 : MP.exec T (callN T F (k + 3)) (.setN 8 (.lst .nil)) (eP (ownD r0 r1 r2 r3 r4 r5 r6 r7 r8) w s x y (.val (kd x)) (.val (kd y)) (.val (iD (rk2 x y r2))) .no) [] = .nx (eA (ownD r0 r1 r2 r3 r4 r5 r6 r7 r8) (.int w) (.str s) (dN x) (dN y) (kd x) (kd y) (iD (rk2 x y r2)) .no .no .no .no .no .no []) [] := rfl
  obtain ⟨q5, _, _⟩ := l9 (r0 := r0) (r1 := r1) (r2 := r2) (r3 := r3) (r4 := r4) (r5 := r5) (r6 := r6) (r7 := r7) (r8 := r8) k hw hx hy h.h0 hs
  exact (execs_nx q1).trans ((execs_nx q2).trans ((execs_nx q3).trans ((execs_nx q4).trans ((execs_nx q5).trans rfl))))
theorem m7 (k : Nat) (hw : Wd w n) (hx : Kd x) (hy : Kd y) (hr : r0 ∈ R0) (hs : s ∈ signs) {a : Nat} (ha : a < 8) {l : List D} (hg : Good l) (hl : l.length ≤ 512) :
    MP.exec T (callN T F (k + 3)) t7 (eB (bookD r0 r1 r2 r3 r4 r5 r6 r7 r8) (.int w) (.str s) (dN x) (dN y) (.val (iD a)) .no .no .no .no .no l) [] = .nx (eB (bookD r0 r1 r2 r3 r4 r5 r6 r7 r8) (.int w) (.str s) (dN x) (dN y) (.val (iD a)) .no .no .no .no .no (innr s n r0 (rk2 x y r2) y l a)) [] ∧ Good (innr s n r0 (rk2 x y r2) y l a) ∧ (innr s n r0 (rk2 x y r2) y l a).length ≤ l.length + 64 := by
  have hlim : lim = 10000000 := rfl
  have hc := Ch_len (x := y) hw.n
  obtain ⟨q1, q2, q3⟩ := loop_foldM (f := fF T (callN T F (k + 3)) 7 bB) (E := fun l => (eB (bookD r0 r1 r2 r3 r4 r5 r6 r7 r8) (.int w) (.str s) (dN x) (dN y) (.val (iD a)) .no .no .no .no .no l)) (mk := iD) (g := fun l b => addAll l (outs s n r0 (rk2 x y r2) a b)) (I := fun i l' => Good l' ∧ l'.length ≤ l.length + 8 * i) (h := []) (Ch y n) 0 l (fun b l' j m z ⟨g1, g2⟩ => by
    have hb := Ch_mem hy hw.n m
    obtain ⟨_, e1⟩ := ex_ok (k + 2) hs ha hb
    obtain ⟨u1, u2, u3⟩ := bodyB (Φ := callN T F (k + 3)) (r0 := r0) (r1 := r1) (r2 := r2) (r3 := r3) (r4 := r4) (r5 := r5) (r6 := r6) (r7 := r7) (r8 := r8) (a := a) (b := b) (l := l') hw hx hy hr (sg_len hs) g1 (by omega) e1 (fun wd => (ar_ok k hr hw wd).2) (size_ok (k + 2) hw)
    exact ⟨u1, u2, by omega⟩) ⟨hg, by omega⟩
  have tk : ev T (callN T F (k + 3)) (.call 15 (.cons (.cst (.str s_choose)) (.cons (.var 4) (.cons (.var 1) .nil)))) (eB (bookD r0 r1 r2 r3 r4 r5 r6 r7 r8) (.int w) (.str s) (dN x) (dN y) (.val (iD a)) .no .no .no .no .no l) [] = .ok (.lst ((Ch y n).map iD)) [] := by
    have z := tk_ok k hw hy
    simp [eB, ev, evs, R.bind, tb_dfl, z]
  refine ⟨(ex_forv (x := .d (.lst ((Ch y n).map iD))) rfl (opd_call tk) rfl).trans q1, q2, ?_⟩
  show (innr s n r0 (rk2 x y r2) y l a).length ≤ _
  unfold innr
  omega
theorem stepped_ok (k : Nat) (h : Rul r0 r1 r2 r3 r4 r5 r6 r7 r8) (hw : Wd w n) (hx : Kd x) (hy : Kd y) (hs : s ∈ signs) : callN T F (k + 4) 8 [bookD r0 r1 r2 r3 r4 r5 r6 r7 r8, .int w, .str s, dN x, dN y] [] = .ok (.lst (resL s n r0 (rk2 x y r2) x y)) [] := by
  refine callN_of Fst rfl rfl (run_of bST_eq rfl rfl ?_)
  have hc := Ch_len (x := x) hw.n
  have hr := h.h0
  have q4 : MP.exec T (callN T F (k + 3)) (.setN 5 (.lst .nil)) (startE f8.ns [bookD r0 r1 r2 r3 r4 r5 r6 r7 r8, .int w, .str s, dN x, dN y]) [] = .nx (eB (bookD r0 r1 r2 r3 r4 r5 r6 r7 r8) (.int w) (.str s) (dN x) (dN y) .no .no .no .no .no .no []) [] := rfl
  obtain ⟨q1, q2, q3⟩ := loop_foldM (f := fF T (callN T F (k + 3)) 6 b6) (E := fun l => (eB (bookD r0 r1 r2 r3 r4 r5 r6 r7 r8) (.int w) (.str s) (dN x) (dN y) .no .no .no .no .no .no l)) (mk := iD) (g := innr s n r0 (rk2 x y r2) y) (I := fun i l' => Good l' ∧ l'.length ≤ 64 * i) (h := []) (Ch x n) 0 [] (fun a l' j m z ⟨g1, g2⟩ => by
    obtain ⟨u1, u2, u3⟩ := m7 (r0 := r0) (r1 := r1) (r2 := r2) (r3 := r3) (r4 := r4) (r5 := r5) (r6 := r6) (r7 := r7) (r8 := r8) k hw hx hy hr hs (Ch_mem hx hw.n m) g1 (by omega)
    exact ⟨(execs_nx u1).trans rfl, u2, by omega⟩) ⟨(fun _ z => nomatch z), by show 0 ≤ _; omega⟩
  have tk : ev T (callN T F (k + 3)) (.call 15 (.cons (.cst (.str s_choose)) (.cons (.var 3) (.cons (.var 1) .nil)))) (eB (bookD r0 r1 r2 r3 r4 r5 r6 r7 r8) (.int w) (.str s) (dN x) (dN y) .no .no .no .no .no .no []) [] = .ok (.lst ((Ch x n).map iD)) [] := by
    have z := tk_ok k hw hx
    simp [eB, ev, evs, R.bind, tb_dfl, z]
  have q5 : MP.exec T (callN T F (k + 3)) t6 (eB (bookD r0 r1 r2 r3 r4 r5 r6 r7 r8) (.int w) (.str s) (dN x) (dN y) .no .no .no .no .no .no []) [] = .nx (eB (bookD r0 r1 r2 r3 r4 r5 r6 r7 r8) (.int w) (.str s) (dN x) (dN y) .no .no .no .no .no .no (resL s n r0 (rk2 x y r2) x y)) [] := (ex_forv (x := .d (.lst ((Ch x n).map iD))) rfl (opd_call tk) rfl).trans q1
  exact (execs_nx q4).trans ((execs_nx q5).trans rfl)
theorem resL_good (k : Nat) (h : Rul r0 r1 r2 r3 r4 r5 r6 r7 r8) (hw : Wd w n) (hx : Kd x) (hy : Kd y) (hs : s ∈ signs) : Good (resL s n r0 (rk2 x y r2) x y) ∧ (resL s n r0 (rk2 x y r2) x y).length ≤ 512 := (l9 (r0 := r0) (r1 := r1) (r2 := r2) (r3 := r3) (r4 := r4) (r5 := r5) (r6 := r6) (r7 := r7) (r8 := r8) 0 hw hx hy h.h0 hs).2
end
/-! each once -/
theorem Outc.eq {a b : D} (ha : Outc a) (hb : Outc b) : eqD a b = true ↔ a = b := by
  have n1 : ¬ s_any = s_bad := by decide
  have n2 : ¬ s_any = s_wrong := by decide
  have n3 : ¬ s_bad = s_any := by decide
  have n4 : ¬ s_bad = s_wrong := by decide
  have n5 : ¬ s_wrong = s_any := by decide
  have n6 : ¬ s_wrong = s_bad := by decide
  rcases ha with ⟨i, rfl⟩ | rfl | rfl | rfl <;> rcases hb with ⟨j, rfl⟩ | rfl | rfl | rfl <;> simp [eqD, n1, n2, n3, n4, n5, n6]
def ND (l : List D) : Prop := Good l ∧ l.Nodup
theorem add1_nd {l : List D} {d : D} (h : ND l) (hd : Outc d) : ND (add1 l d) := by
  refine ⟨add1_good h.1 hd, ?_⟩
  unfold add1
  split
  · exact h.2
  · rename_i q
    refine List.nodup_append.mpr ⟨h.2, by simp, fun a ha b hb e => q ?_⟩
    rw [List.mem_singleton.mp hb] at e
    subst e
    exact List.any_eq_true.mpr ⟨a, ha, (Outc.eq hd hd).mpr rfl⟩
theorem addAll_nd {l os : List D} (h : ND l) (ho : Good os) : ND (addAll l os) := foldl_inv os l (fun a m s p => add1_nd p (ho a m)) h
theorem resL_nd {s r : Str} {n rk x y : Nat} (hr : r ∈ R0) : ND (resL s n r rk x y) :=
  foldl_inv _ _ (fun a _ l p => foldl_inv _ _ (fun b _ l p => addAll_nd p (outs_good hr)) p) ⟨(fun _ z => nomatch z), List.nodup_nil⟩
theorem cnt0 {x : D} (hx : Outc x) : ∀ {l : List D}, Good l → x ∉ l → l.countP (fun z => eqD z x) = 0
  | [], _, _ => rfl
  | d :: r, h, m => by
    rw [List.countP_cons_of_neg (p := fun z => eqD z x) (fun z => m (by rw [← (Outc.eq (h d List.mem_cons_self) hx).mp z]; exact List.mem_cons_self))]
    exact cnt0 hx (fun z q => h z (List.mem_cons_of_mem _ q)) fun z => m (List.mem_cons_of_mem _ z)
theorem cnt1 {x : D} (hx : Outc x) : ∀ {l : List D}, ND l → x ∈ l → l.countP (fun z => eqD z x) = 1
  | [], _, m => nomatch m
  | d :: r, ⟨h, nd⟩, m => by
    obtain ⟨n1, n2⟩ := List.nodup_cons.mp nd
    by_cases e : d = x
    · subst e
      rw [List.countP_cons_of_pos (p := fun z => eqD z d) ((Outc.eq hx hx).mpr rfl), cnt0 hx (fun z q => h z (List.mem_cons_of_mem _ q)) n1]
    · rw [List.countP_cons_of_neg (p := fun z => eqD z x) (fun z => e ((Outc.eq (h d List.mem_cons_self) hx).mp z))]
      exact cnt1 hx ⟨fun z q => h z (List.mem_cons_of_mem _ q), n2⟩ ((List.mem_cons.mp m).resolve_left fun z => e z.symm)
theorem io_ok (k : Nat) {d : D} (h : Outc d) : callN T F (k + 1) 11 [.int 1, d] [] = .ok (.bl true) [] := by
  rcases h with ⟨i, rfl⟩ | rfl | rfl | rfl <;> kernel_rfl
def sm1 : MP.S := .iff (.or (.not (.v (.isi (.var 0) .list))) (.v (.cmp .ne (.blt .len (.cons (.var 0) .nil)) (.blt .len (.cons (.var 1) .nil))))) (.cons (.ret (.cst (.bl false))) .nil) .nil
def sm2b : Ss := (.cons (.iff (.not (.v (.call 11 (.cons (.cst (.int (1))) (.cons (.var 2) .nil))))) (.cons (.ret (.cst (.bl false))) .nil) .nil) (.cons (.wip [2]) .nil))
def smC : MP.T := .v (.cmp .eq (.bm .lcount (.var 0) (.cons (.var 2) .nil)) (.cst (.int (1))))
def smL : M := .lc [2] (.var 2) (.nm 2) (.val (.var 1)) (.cons smC .nil)
def sm3 : MP.S := .ret (.cmp .eq (.blt .len (.cons smL .nil)) (.blt .len (.cons (.var 1) .nil)))
def bSm : Ss := .cons sm1 (.cons (.forr (.nm 2) (.val (.var 0)) sm2b) (.cons (.wip [2]) (.cons sm3 .nil)))
theorem bSm_eq : f6.body = bSm := by kernel_rfl
theorem Fsm : F 6 = some f6 := rfl
def eS (l : List D) (s2 : Slot) : Ev := [.val (.lst l), .val (.lst l), s2]
section
variable {Φ : Nat → List D → MH → MP.R D} {l : List D}
theorem smT (h : ND l) {d : D} (m : d ∈ l) : evT T Φ smC (eS l (.val d)) [] = .ok true [] := by
  have c := cnt1 (h.1 d m) h m
  have bm : bmD .lcount (.lst l) [d] = some (.int (l.countP fun z => eqD z d)) := by
    have e : bmD .lcount (.lst l) [d] = if (MP.fit d 60 && fitL l 60) = true then some (.int (l.countP fun z => eqD z d)) else none := rfl
    rw [e, if_pos (by rw [(h.1 d m).fit, h.1.fit]; rfl)]
  rw [c] at bm
  have hd := h.1 d m
  simp [smC, eS, MP.execs, MP.exec, ev, evs, evT, opd, vo, vos, evOs, view, R.bind, R.of, R.st, cmpD, truD, tb_dfl, wipeE, bltD, binD, idxD, kindT, bmK, bm, eqO, eqD, fit]
theorem smTurns (h : ND l) (hl : l.length ≤ 512) : ∀ (r acc : List D), (∀ d ∈ r, d ∈ l) → acc.length + r.length ≤ 512 → turns (fun d acc h => (match bindP (.nm 2) d (wipeE (eS l .no) [2]) with
      | some e' => (evC T Φ (.cons smC .nil) e' h).bind fun b h => if b then (ev T Φ (.var 2) e' h).bind fun y h => (if acc.length < lim then .ok (acc ++ [y]) h else .no) else .ok acc h
      | none => .no)) r acc [] = .ok (acc ++ r) []
  | [], acc, _, _ => by show R.ok acc [] = _; rw [List.append_nil]
  | d :: r, acc, m, z => by
    have hlim : lim = 10000000 := rfl
    have q := smT (Φ := Φ) h (m d List.mem_cons_self)
    have ih := smTurns h hl r (acc ++ [d]) (fun d q => m d (List.mem_cons_of_mem _ q)) (by rw [List.length_append]; rw [List.length_cons] at z; show acc.length + 1 + r.length ≤ 512; omega)
    rw [List.append_assoc] at ih
    rw [List.length_cons] at z
    have hacc : acc.length < lim := by omega
    refine Eq.trans ?_ ih
    show R.bind ((evC T Φ (.cons smC .nil) (eS l (.val d)) []).bind fun b h => if b then (ev T Φ (.var 2) (eS l (.val d)) h).bind fun y h => (if acc.length < lim then .ok (acc ++ [y]) h else .no) else .ok acc h) _ = _
    have e1 : evC T Φ (.cons smC .nil) (eS l (.val d)) [] = .ok true [] := by simp [evC, q, R.bind]
    have e2 : ev T Φ (.var 2) (eS l (.val d)) [] = .ok d [] := rfl
    rw [e1]
    show R.bind (R.bind (ev T Φ (.var 2) (eS l (.val d)) []) fun y h => (if acc.length < lim then .ok (acc ++ [y]) h else .no)) _ = _
    rw [e2]
    show R.bind (if acc.length < lim then .ok (acc ++ [d]) [] else .no) _ = _
    rw [if_pos hacc]
    rfl
theorem smL_ok (h : ND l) (hl : l.length ≤ 512) : ev T Φ smL (eS l .no) [] = .ok (.lst l) [] := by
  have q := smTurns (Φ := Φ) h hl l [] (fun _ m => m) (by simpa using hl)
  have e : ev T Φ smL (eS l .no) [] = (turns (fun d acc h => (match bindP (.nm 2) d (wipeE (eS l .no) [2]) with
      | some e' => (evC T Φ (.cons smC .nil) e' h).bind fun b h => if b then (ev T Φ (.var 2) e' h).bind fun y h => (if acc.length < lim then .ok (acc ++ [y]) h else .no) else .ok acc h
      | none => .no)) l [] []).bind fun acc h => .ok (.lst acc) h := rfl
  rw [e, q]
  rfl
theorem same_run (h : ND l) (hl : l.length ≤ 512) (hi : ∀ d ∈ l, Φ 11 [.int 1, d] [] = .ok (.bl true) []) : MP.execs T Φ bSm (eS l .no) [] = .rt (.bl true) [] := by
  have q1 : MP.exec T Φ sm1 (eS l .no) [] = .nx (eS l .no) [] := by
    have z : isD T (.lst l) .list = some true := rfl
    simp [sm1, eS, MP.execs, MP.exec, ev, evs, evT, opd, vo, vos, evOs, view, R.bind, R.of, R.st, cmpD, truD, tb_dfl, wipeE, bltD, binD, idxD, z, eqO, eqD, fit]
  have q2 : MP.exec T Φ (.forr (.nm 2) (.val (.var 0)) sm2b) (eS l .no) [] = .nx (eS l .no) [] := by
    refine (ex_forx (ds := l) rfl).trans (loop_all fun d hd => ?_)
    show MP.execs T Φ sm2b (eS l (.val d)) [] = _
    have z := hi d hd
    simp [sm2b, eS, MP.execs, MP.exec, ev, evs, evT, opd, vo, vos, evOs, view, R.bind, R.of, R.st, cmpD, truD, tb_dfl, wipeE, bltD, binD, idxD, z]
  have q3 : ev T Φ (.cmp .eq (.blt .len (.cons smL .nil)) (.blt .len (.cons (.var 1) .nil))) (eS l .no) [] = .ok (.bl true) [] := by
    have z := smL_ok (Φ := Φ) h hl
    have z2 : opd smL (ev T Φ smL (eS l .no) []) (eS l .no) [] = .ok (.d (.lst l)) [] := by rw [z]; rfl
    have z3 : ev T Φ (.blt .len (.cons smL .nil)) (eS l .no) [] = .ok (.int l.length) [] := by
      simp only [ev, evOs, z2, R.bind]
      rfl
    have z4 : ev T Φ (.blt .len (.cons (.var 1) .nil)) (eS l .no) [] = .ok (.int l.length) [] := rfl
    have o1 : opd (.blt .len (.cons smL .nil)) (ev T Φ (.blt .len (.cons smL .nil)) (eS l .no) []) (eS l .no) [] = .ok (.d (.int l.length)) [] := by rw [z3]; rfl
    have o2 : opd (.blt .len (.cons (.var 1) .nil)) (ev T Φ (.blt .len (.cons (.var 1) .nil)) (eS l .no) []) (eS l .no) [] = .ok (.d (.int l.length)) [] := by rw [z4]; rfl
    have e : ev T Φ (.cmp .eq (.blt .len (.cons smL .nil)) (.blt .len (.cons (.var 1) .nil))) (eS l .no) [] = (opd (.blt .len (.cons smL .nil)) (ev T Φ (.blt .len (.cons smL .nil)) (eS l .no) []) (eS l .no) []).bind fun x h => (opd (.blt .len (.cons (.var 1) .nil)) (ev T Φ (.blt .len (.cons (.var 1) .nil)) (eS l .no) h) (eS l .no) h).bind fun y h => (match vo (eS l .no) h x, vo (eS l .no) h y with
      | some x, some y => .of ((cmpD .eq x y).map D.bl) h
      | _, _ => .no) := rfl
    rw [e, o1]
    simp only [R.bind]
    rw [o2]
    simp [R.of, vo, view, cmpD, eqO, eqD, fit]
  refine (execs_nx q1).trans ((execs_nx q2).trans ((execs_nx (show MP.exec T Φ (.wip [2]) (eS l .no) [] = .nx (eS l .no) [] from rfl)).trans ?_))
  exact ex_ret q3
end
theorem same_ok (k : Nat) {l : List D} (h : ND l) (hl : l.length ≤ 512) : callN T F (k + 2) 6 [.lst l, .lst l] [] = .ok (.bl true) [] :=
  callN_of Fsm rfl rfl (run_of bSm_eq rfl rfl (same_run h hl fun d m => io_ok k (h.1 d m)))
theorem one_ok (k : Nat) {r0 r1 r2 r3 r4 r5 r6 r7 r8 : Str} (h : Rul r0 r1 r2 r3 r4 r5 r6 r7 r8) {w : Int} {n x y : Nat} {s : Str} (hw : Wd w n) (hx : Kd x) (hy : Kd y) (hs : s ∈ signs) :
    ∃ l : List D, callN T F (k + 4) 7 [ownD r0 r1 r2 r3 r4 r5 r6 r7 r8, .int w, .str s, dN x, dN y] [] = .ok (.lst l) [] ∧ callN T F (k + 4) 8 [bookD r0 r1 r2 r3 r4 r5 r6 r7 r8, .int w, .str s, dN x, dN y] [] = .ok (.lst l) [] ∧ callN T F (k + 4) 6 [.lst l, .lst l] [] = .ok (.bl true) [] :=
  ⟨_, step_ok k h hw hx hy hs, stepped_ok k h hw hx hy hs, same_ok (k + 2) (resL_nd h.h0) (resL_good 0 h hw hx hy hs).2⟩
end K07

set_option maxRecDepth 100000
set_option maxHeartbeats 4000000
namespace K07
open PySem PySem.Spec PyProof.Rows L2 MP
theorem F0 : F 0 = some f0 := rfl
def a1 : MP.S := .set 1 (.call 1 (.cons (.var 0) (.cons (.cst (.int (14))) .nil)))
def a2 : MP.S := .set 2 (.call 2 (.cons (.var 1) (.cons (.cst (.int (0))) .nil)))
def a3 : MP.S := .set 3 (.idx (.lst (.cons (.cst (.int (1))) (.cons (.cst (.int (2))) (.cons (.cst (.int (2))) (.cons (.cst (.int (3))) .nil))))) (.bin .mod (.blt .int (.cons (.idx (.var 1) (.cst (.int (10)))) .nil)) (.cst (.int (4)))))
def a4 : MP.S := .set 4 (.call 3 (.cons (.var 3) .nil))
def a5 : MP.S := .set 5 (.lst (.cons (.cst (.str s_any)) (.cons (.cst (.str s_bad)) (.cons (.bin .mod (.blt .int (.cons (.idx (.var 1) (.cst (.int (11)))) .nil)) (.var 4)) (.cons (.cst (.int (0))) (.cons (.bin .sub (.var 4) (.cst (.int (1)))) .nil))))))
def a6 : MP.S := .iff (.v (.cmp .lt (.var 3) (.cst (.int (3))))) (.cons (.set 5 (.bin .add (.lst (.cons (.cst (.str s_any)) (.cons (.cst (.str s_bad)) .nil))) (.call 4 (.cons (.var 3) .nil)))) .nil) .nil
def mkO : M := .mk 3 (.cons (.blt .dict (.cons (.var 2) .nil)) .nil)
def a7 : MP.S := .set 6 mkO
def cmpM (i j : Nat) : M := .call 6 (.cons (.call 7 (.cons (.var 6) (.cons (.var 3) (.cons (.var 9) (.cons (.var i) (.cons (.var j) .nil)))))) (.cons (.call 8 (.cons (.var 2) (.cons (.var 3) (.cons (.var 9) (.cons (.var i) (.cons (.var j) .nil)))))) .nil))
def gd (i j : Nat) : MP.S := .iff (.not (.v (cmpM i j))) (.cons (.ret (.cst (.bl false))) .nil) .nil
def g1 : Ss := .cons (gd 7 8) (.cons (gd 8 7) (.cons (.wip [9]) .nil))
def sgM : Ms := (.cons (.cst (.str s__2b)) (.cons (.cst (.str s__2d)) (.cons (.cst (.str s__2a)) (.cons (.cst (.str s__26)) (.cons (.cst (.str s__3d)) (.cons (.cst (.str s__3c)) (.cons (.cst (.str s__2b_21)) (.cons (.cst (.str s__2d_21)) .nil))))))))
def g2 : Ss := .cons (.forr (.nm 9) (.val (.lst sgM)) g1) (.cons (.wip [9]) (.cons (.wip [8, 9]) .nil))
def g3 : Ss := .cons (.forr (.nm 8) (.val (.var 5)) g2) (.cons (.wip [8, 9]) (.cons (.wip [7, 8, 9]) .nil))
def mkM : Ms := .cons (.cst (.str s_any)) (.cons (.cst (.str s_bad)) .nil)
def a8 : MP.S := .forr (.nm 7) (.val (.lst mkM)) g3
def b0 : Ss := .cons a1 (.cons a2 (.cons a3 (.cons a4 (.cons a5 (.cons a6 (.cons a7 (.cons a8 (.cons (.wip [7, 8, 9]) (.cons (.ret (.cst (.bl true))) .nil)))))))))
theorem b0_eq : f0.body = b0 := by kernel_rfl
theorem words_ok (k : Nat) {w : Int} {n : Nat} (h : Wd w n) : callN T F (k + 2) 4 [.int w] [] = .ok (.lst (WD n)) [] := by
  rcases h with ⟨rfl, rfl⟩ | ⟨rfl, rfl⟩ | ⟨rfl, rfl⟩ <;> kernel_rfl
def e0 (sc : D) (l : List D) (book : D) (s3 s4 s5 s6 s7 s8 s9 : Slot) : Ev := [.val sc, .val (.lst l), .val book, s3, s4, s5, s6, s7, s8, s9]
def Ok1 (Φ : Nat → List D → MH → MP.R D) (own book : D) (w : Int) : Prop := ∀ s ∈ signs, ∀ x y : Nat, Kd x → Kd y → ∃ r : List D, Φ 7 [own, .int w, .str s, dN x, dN y] [] = .ok (.lst r) [] ∧ Φ 8 [book, .int w, .str s, dN x, dN y] [] = .ok (.lst r) [] ∧ Φ 6 [.lst r, .lst r] [] = .ok (.bl true) []
section
variable {Φ : Nat → List D → MH → MP.R D} {sc book own : D} {l : List D} {w : Int} {n : Nat}
theorem run1 {s : Str} {x y : Nat} {s4 s5 : Slot} (h : Ok1 Φ own book w) (hs : s ∈ signs) (hx : Kd x) (hy : Kd y) :
    MP.execs T Φ g1 (e0 sc l book (.val (.int w)) s4 s5 (.val own) (.val (dN x)) (.val (dN y)) (.val (.str s))) [] = .nx (e0 sc l book (.val (.int w)) s4 s5 (.val own) (.val (dN x)) (.val (dN y)) .no) [] := by
  obtain ⟨r, u1, u2, u3⟩ := h s hs x y hx hy
  obtain ⟨r', v1, v2, v3⟩ := h s hs y x hy hx
  have z1 : ev T Φ (cmpM 7 8) (e0 sc l book (.val (.int w)) s4 s5 (.val own) (.val (dN x)) (.val (dN y)) (.val (.str s))) [] = .ok (.bl true) [] := by
    simp [cmpM, e0, ev, evs, R.bind, tb_dfl, u1, u2, u3]
  have z2 : ev T Φ (cmpM 8 7) (e0 sc l book (.val (.int w)) s4 s5 (.val own) (.val (dN x)) (.val (dN y)) (.val (.str s))) [] = .ok (.bl true) [] := by
    simp [cmpM, e0, ev, evs, R.bind, tb_dfl, v1, v2, v3]
  exact (execs_nx (ex_guard (opd_call z1))).trans ((execs_nx (ex_guard (opd_call z2))).trans rfl)
theorem run8 {os : List D} {s4 : Slot} (h : Ok1 Φ own book w) (ho : ∀ d ∈ os, ∃ x, d = dN x ∧ Kd x) : MP.exec T Φ a8 (e0 sc l book (.val (.int w)) s4 (.val (.lst os)) (.val own) .no .no .no) [] = .nx (e0 sc l book (.val (.int w)) s4 (.val (.lst os)) (.val own) .no .no .no) [] := by
  refine (ex_forl (ds := [dN 100, dN 101]) rfl).trans (loop_all fun d hd => ?_)
  obtain ⟨x, rfl, hx⟩ : ∃ x, d = dN x ∧ Kd x := by
    simp only [List.mem_cons, List.mem_nil_iff, or_false] at hd
    rcases hd with rfl | rfl
    · exact ⟨100, rfl, .inr (.inl rfl)⟩
    · exact ⟨101, rfl, .inr (.inr rfl)⟩
  have q : MP.exec T Φ (.forr (.nm 8) (.val (.var 5)) g2) (e0 sc l book (.val (.int w)) s4 (.val (.lst os)) (.val own) (.val (dN x)) .no .no) [] = .nx (e0 sc l book (.val (.int w)) s4 (.val (.lst os)) (.val own) (.val (dN x)) .no .no) [] := by
    refine (ex_forx (ds := os) rfl).trans (loop_all fun d hd => ?_)
    obtain ⟨y, rfl, hy⟩ := ho d hd
    have q : MP.exec T Φ (.forr (.nm 9) (.val (.lst sgM)) g1) (e0 sc l book (.val (.int w)) s4 (.val (.lst os)) (.val own) (.val (dN x)) (.val (dN y)) .no) [] = .nx (e0 sc l book (.val (.int w)) s4 (.val (.lst os)) (.val own) (.val (dN x)) (.val (dN y)) .no) [] := by
      refine (ex_forl (ds := signs.map D.str) rfl).trans (loop_all fun d hd => ?_)
      obtain ⟨s, hs, rfl⟩ := List.mem_map.mp hd
      exact run1 h hs hx hy
    exact (execs_nx q).trans rfl
  exact (execs_nx q).trans rfl
theorem run0 (dl : Dr l) (hl : l.length = 14) (q1 : Φ 1 [sc, .int 14] [] = .ok (.lst l) []) (q2 : Φ 2 [.lst l, .int 0] [] = .ok book []) (q3 : ∀ w n, Wd w n → Φ 3 [.int w] [] = .ok (.int (n : Int)) []) (q3' : ∀ w n, Wd w n → Φ 4 [.int w] [] = .ok (.lst (WD n)) [])
    (q4 : ∀ e : Ev, e[2]? = some (.val book) → ev T Φ mkO e [] = .ok own []) (q5 : ∀ w n, Wd w n → Ok1 Φ own book w) :
    MP.execs T Φ b0 [.val sc, .no, .no, .no, .no, .no, .no, .no, .no, .no] [] = .rt (.bl true) [] := by
  obtain ⟨x10, g10, _⟩ := dl.get (i := 10) (by omega)
  obtain ⟨x11, g11, _⟩ := dl.get (i := 11) (by omega)
  have g10' : L2.atI l 10 = some (.int x10) := by rw [← g10]; exact atI_nat (i := 10) (by omega)
  have g11' : L2.atI l 11 = some (.int x11) := by rw [← g11]; exact atI_nat (i := 11) (by omega)
  have p1 : MP.exec T Φ a1 [.val sc, .no, .no, .no, .no, .no, .no, .no, .no, .no] [] = .nx [.val sc, .val (.lst l), .no, .no, .no, .no, .no, .no, .no, .no] [] := by
    simp [a1, MP.exec, ev, evs, R.bind, R.st, tb_dfl, q1]
  have p2 : MP.exec T Φ a2 [.val sc, .val (.lst l), .no, .no, .no, .no, .no, .no, .no, .no] [] = .nx (e0 sc l book .no .no .no .no .no .no .no) [] := by
    simp [a2, e0, MP.exec, ev, evs, R.bind, R.st, tb_dfl, q2]
  obtain ⟨w, n, hw, p3⟩ : ∃ w n, Wd w n ∧ MP.exec T Φ a3 (e0 sc l book .no .no .no .no .no .no .no) [] = .nx (e0 sc l book (.val (.int w)) .no .no .no .no .no .no) [] := by
    obtain ⟨d, u, v⟩ := at_mem (S := [.int 1, .int 2, .int 2, .int 3]) (by decide) x10
    have u' : L2.atI [D.int 1, .int 2, .int 2, .int 3] (x10 % 4) = some d := u
    have pr : ∀ w : Int, d = .int w → MP.exec T Φ a3 (e0 sc l book .no .no .no .no .no .no .no) [] = .nx (e0 sc l book (.val (.int w)) .no .no .no .no .no .no) [] := fun w e => by
      subst e
      simp [a3, e0, MP.exec, ev, evs, evOs, opd, vo, vos, view, R.bind, R.of, R.st, bltD, binD, idxD, tb_dfl, g10', u', lim]
    simp only [List.mem_cons, List.mem_nil_iff, or_false] at v
    rcases v with e | e | e | e
    · exact ⟨1, 2, .inl ⟨rfl, rfl⟩, pr 1 e⟩
    · exact ⟨2, 4, .inr (.inl ⟨rfl, rfl⟩), pr 2 e⟩
    · exact ⟨2, 4, .inr (.inl ⟨rfl, rfl⟩), pr 2 e⟩
    · exact ⟨3, 8, .inr (.inr ⟨rfl, rfl⟩), pr 3 e⟩
  have hn : 0 < n ∧ n ≤ 8 := by rcases hw.n with h | h | h <;> omega
  have hn0 : (0 : Int) < n := by omega
  have hn1 : 0 < n := hn.1
  have p4 : MP.exec T Φ a4 (e0 sc l book (.val (.int w)) .no .no .no .no .no .no) [] = .nx (e0 sc l book (.val (.int w)) (.val (.int (n : Int))) .no .no .no .no .no) [] := by
    have z := q3 _ _ hw
    simp [a4, e0, MP.exec, ev, evs, R.bind, R.st, tb_dfl, z]
  have p5 : MP.exec T Φ a5 (e0 sc l book (.val (.int w)) (.val (.int (n : Int))) .no .no .no .no .no) [] = .nx (e0 sc l book (.val (.int w)) (.val (.int (n : Int))) (.val (.lst [.str s_any, .str s_bad, .int (x11 % n), .int 0, .int ((n : Int) - 1)])) .no .no .no .no) [] := by
    simp [a5, e0, MP.exec, ev, evs, evOs, opd, vo, vos, view, R.bind, R.of, R.st, bltD, binD, idxD, tb_dfl, g11', hn0, hn1, lim]
  obtain ⟨os, ho, p6⟩ : ∃ os : List D, (∀ d ∈ os, ∃ x, d = dN x ∧ Kd x) ∧ MP.exec T Φ a6 (e0 sc l book (.val (.int w)) (.val (.int (n : Int))) (.val (.lst [.str s_any, .str s_bad, .int (x11 % n), .int 0, .int ((n : Int) - 1)])) .no .no .no .no) [] = .nx (e0 sc l book (.val (.int w)) (.val (.int (n : Int))) (.val (.lst os)) .no .no .no .no) [] := by
    have gi : ∀ i : Int, 0 ≤ i → i < 8 → ∃ x, D.int i = dN x ∧ Kd x := fun i h0 h1 => ⟨i.toNat, by rw [dN_lt (by omega)]; congr 1; omega, .inl (by omega)⟩
    have t : evT T Φ (.v (.cmp .lt (.var 3) (.cst (.int (3))))) (e0 sc l book (.val (.int w)) (.val (.int (n : Int))) (.val (.lst [.str s_any, .str s_bad, .int (x11 % n), .int 0, .int ((n : Int) - 1)])) .no .no .no .no) [] = .ok (decide (w < 3)) [] := by
      simp [e0, ev, evT, opd, vo, view, R.bind, R.of, cmpD, truD]
    by_cases h : w < 3
    · refine ⟨[.str s_any, .str s_bad] ++ WD n, fun d hd => ?_, (ex_iff t).trans ?_⟩
      · rcases List.mem_append.mp hd with z | z
        · simp only [List.mem_cons, List.mem_nil_iff, or_false] at z
          rcases z with rfl | rfl
          · exact ⟨100, rfl, .inr (.inl rfl)⟩
          · exact ⟨101, rfl, .inr (.inr rfl)⟩
        · obtain ⟨i, hi, rfl⟩ := List.mem_map.mp z
          have hi := List.mem_range.mp hi
          exact gi i (by omega) (by omega)
      · rw [if_pos (decide_eq_true h)]
        refine execs_one ?_
        have z := q3' _ _ hw
        have z2 : (WD n).length + 2 ≤ lim := by rw [WD_len]; show _ ≤ 10000000; omega
        have z3 : 2 + (WD n).length ≤ lim := by omega
        have z4 : (WD n).length + 1 + 1 ≤ lim := by omega
        have z5 : 2 + (WD n).length ≤ 10000000 := z3
        simp [e0, MP.exec, ev, evs, opd, vo, view, R.bind, R.of, R.st, binD, tb_dfl, z, lim, z5]
    · refine ⟨_, fun d hd => ?_, (ex_iff t).trans (by rw [if_neg (by rw [decide_eq_false h]; exact Bool.false_ne_true)]; rfl)⟩
      simp only [List.mem_cons, List.mem_nil_iff, or_false] at hd
      have m0 := Int.emod_nonneg x11 (show (n : Int) ≠ 0 by omega)
      have m1 := Int.emod_lt_of_pos x11 hn0
      rcases hd with rfl | rfl | rfl | rfl | rfl
      · exact ⟨100, rfl, .inr (.inl rfl)⟩
      · exact ⟨101, rfl, .inr (.inr rfl)⟩
      · exact gi _ m0 (by omega)
      · exact gi _ (by omega) (by omega)
      · exact gi _ (by omega) (by omega)
  have p7 : MP.exec T Φ a7 (e0 sc l book (.val (.int w)) (.val (.int (n : Int))) (.val (.lst os)) .no .no .no .no) [] = .nx (e0 sc l book (.val (.int w)) (.val (.int (n : Int))) (.val (.lst os)) (.val own) .no .no .no) [] := by
    have z := q4 (e0 sc l book (.val (.int w)) (.val (.int (n : Int))) (.val (.lst os)) .no .no .no .no) rfl
    simp only [a7, MP.exec, z, R.st]
    rfl
  have p8 := run8 (Φ := Φ) (sc := sc) (l := l) (s4 := .val (.int (n : Int))) (q5 _ _ hw) ho
  exact (execs_nx p1).trans ((execs_nx p2).trans ((execs_nx p3).trans ((execs_nx p4).trans ((execs_nx p5).trans ((execs_nx p6).trans ((execs_nx p7).trans ((execs_nx p8).trans rfl)))))))
end
theorem st0 {sc : D} : startE f0.ns [sc] = [.val sc, .no, .no, .no, .no, .no, .no, .no, .no, .no] := rfl
theorem law_ok (ns : List Int) (hn : ns.length ≤ 63) : ∃ h', callN T F 10 0 [.scr (ns.map D.int)] [] = .ok (.bl true) h' := by
  obtain ⟨l, q1, dl, hl⟩ := draws 8 ns hn 14 (by decide)
  obtain ⟨r0, r1, r2, r3, r4, r5, r6, r7, r8, hr, q2⟩ := book_ok 7 dl (by omega)
  exact ⟨[], callN_of F0 rfl rfl (run_of b0_eq st0 rfl (run0 (own := ownD r0 r1 r2 r3 r4 r5 r6 r7 r8) dl hl q1 q2 (fun w n h => size_ok 8 h) (fun w n h => words_ok 7 h) (fun e he => own_ok 7 hr he) fun w n hw s hs x y hx hy => one_ok 5 hr hw hx hy hs))⟩
end K07

set_option maxRecDepth 100000
set_option maxHeartbeats 0
open PySem PySem.W PySem.Calls PyProof.Rows
theorem PySem.Challenge.cw_badvalues_k07_steps_of_marks_holds : PySem.Challenge.rw_badvalues_k07_steps_of_marks.Holds := by
  w_on; o_law
  refine HandSHeadRun.head_any (r := OpenLaw.row PySem.Challenge.rw_badvalues_k07_steps_of_marks) (q := view (OpenLaw.row PySem.Challenge.rw_badvalues_k07_steps_of_marks).prog [65]) (H := K07.W.hk) (ob := K07.W.ob) (M := 9000) (loose := K07.names) (d := HandSHeadRun.topDef (OpenLaw.row PySem.Challenge.rw_badvalues_k07_steps_of_marks).prog 65) (kwd := []) K07.W.ob_eq
    (by kernel_rfl) (fun s => by kernel_rfl) K07.runH (by kernel_rfl) (by kernel_rfl) (by kernel_rfl) (by rfl) (by first | assumption | decide +kernel) (by decide +kernel) ⟨rfl, rfl, rfl, rfl, rfl, by decide +kernel⟩ ?hw ?hc
  case hw => w_witness2
  case hc =>
    refine L2.walk_ofE (l := PySem.Challenge.rw_badvalues_k07_steps_of_marks) (n := 63) (k := 20) (x := "_law_script") (CX := MP.cx0) rfl (by decide) (by kernel_rfl) ⟨rfl, by decide, by decide⟩ ?F (fun _ _ _ _ z => z)
    intro w mg fa h Y G hmg0
    obtain ⟨K, KX, c⟩ := Y
    have hmg : mg ("law" : PySem.Str) = some (.ref fa) := by
      have e : (HandSHeadRun.topDef (OpenLaw.row PySem.Challenge.rw_badvalues_k07_steps_of_marks).prog 65).name = ("law" : PySem.Str) := by kernel_rfl
      rw [← e]
      exact hmg0
    obtain ⟨fdat, hb, T0⟩ := K07.txt (w := w) KX G c
    exact MP.law_end KX G hmg hb T0 rfl rfl rfl K07.law_ok

