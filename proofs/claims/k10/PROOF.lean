import PyProof.Rows.All
import Wide.All
import OpenK.AllK
import Wide.FinOn
import HandS.ForMost
import HandS.More
import KE.KeyNested
import KE.KDictCopyH
import KE.KIndexOf
import HandS.Deep
import HandS.IsInst
import HandS.DictComp
import HandS.Zip
import HandS.Conv
import HandS.TupAny
import HandS.Defaults
import HandS.Text
import HandS.HeadHook2
import HandS.Iter
import HandS.SetKeys
import HandS.SetBool
import HandS.SortOrd
import HandS.SortRule
import HandS.SortKw
import HandS.FStr
import KE.KSortKey
import KE.KDictOf
import HandS.RaiseMore
import HandS.Strs
import PyProof.Rows.SortKeyStr
import PyProof.Rows.SortStr
import KE.KSuper
import HandS.Nested
import HandS.Head0
import HandS.Head1
import HandS.Head2
import HandS.HeadEnd
import HandS.HeadHook1
import HandS.HeadHook3
import PySem.Challenge.RW_badvalues_k10_first_and_answered
set_option Elab.async false
set_option linter.all false
set_option maxRecDepth 100000
/-! MP1: the values D, what a value stands for at an abstract heap (Rep), how that stays. -/
namespace MP
open PySem PySem.Spec PyProof.Rows L2

/-- values: data by content; ref n: the n-th shared object -/
inductive D where
  | non | bl (b : Bool) | int (i : Int) | str (x : Str)
  | tup (l : List D) | lst (l : List D) | dct (l : List (D × D))
  | ins (c : Nat) (fs : List (Str × D)) | ref (n : Nat)
  /-- the script -/
  | scr (l : List D)

mutual
/-- a key that is a nested tuple, as data -/
def nkD : NestedKey → D
  | .none => .non
  | .num i => .int i
  | .text x => .str x
  | .tup l => .tup (nkDl l)
def nkDl : List NestedKey → List D
  | [] => []
  | k :: r => nkD k :: nkDl r
end
mutual
def D.nk : D → Option NestedKey
  | .non => some .none
  | .int i => some (.num i)
  | .str x => some (.text x)
  | .tup l => (D.nkl l).map NestedKey.tup
  | _ => none
def D.nkl : List D → Option (List NestedKey)
  | [] => some []
  | d :: r => match d.nk, D.nkl r with
    | some k, some l => some (k :: l)
    | _, _ => none
end
/-- a tuple that may be a key -/
def TupKey (k : NestedKey) : Prop := (∃ l, k = .tup l) ∧ k.depth ≤ 8

/-- what is fixed: the program, the world, the written part, where the classes stand -/
structure RC where
  P : Program
  w : World
  K : PySem.W.Frag
  ca : Nat → Addr

/-- a dict whose keys are tuples: the one object; the keys' content, their addresses, the values -/
def dtPhi (w : World) (a : Addr) (l : List (NestedKey × Addr × V)) : Heap → Prop := fun h =>
  l.length ≤ sizeLine ∧ (a == sysModules) = false ∧ (l.map (·.1)).Nodup ∧ ∃ o es ep, h.get? a = some o ∧ o.ExactDict ∧ o.data = .dict es ep ∧
    Paired (fun (p : NestedKey × Addr × V) (e : DictEntry) => e.hash = p.1.hash w ∧ e.key = .ref p.2.1 ∧ RelV p.2.2 e.val) l es.toList

def kD : Key → D
  | .inl i => .int i
  | .inr x => .str x

def KTup (K : PySem.W.Frag) (a : Addr) (xs : List V) : Prop :=
  ∃ (o : Obj) (its : Array Value) (n : Nat), K.lookup a = some o ∧ o.dict = none ∧ o.cls = .type "tuple" ∧ o.data = .seq its n ∧ its.size ≤ sizeLine ∧ Vals xs its.toList
/-- a dict of the written part, its keys texts -/
def KDct (C : RC) (a : Addr) (xs : List (Str × V)) : Prop :=
  ∃ es n, C.K.lookup a = some ⟨.type "dict", none, .dict es n, #[]⟩ ∧ (a == sysModules) = false ∧ xs.length ≤ sizeLine ∧ (xs.map (·.1)).Nodup ∧
    Paired (fun (p : Str × V) (e : DictEntry) => (∃ t, e.key = .str p.1 t) ∧ e.hash = hashStr C.w p.1 ∧ RelV p.2 e.val) xs es.toList
def TupAt (C : RC) (M : Addr → Prop) (H : Hp) (a : Addr) (vs : List V) : Prop := (¬ M a ∧ ∃ o, H a = some (.frz o (.tup vs)) ∧ o.dict = none) ∨ KTup C.K a vs
theorem TupAt.sq {C : RC} {M : Addr → Prop} {H : Hp} {a : Addr} {vs : List V} (h : TupAt C M H a vs) : SqT C.K H a vs := h.elim (fun x => let ⟨o, q, _⟩ := x.2; .inl (.inr ⟨o, q⟩)) fun ⟨o, its, n, h1, _, h2, h3, h4, h5⟩ => .inr ⟨o, its, n, h1, h2, h3, h4, h5⟩

/-- a list that nobody changes, tracked or of the written part -/
def LstAt (C : RC) (M : Addr → Prop) (H : Hp) (a : Addr) (vs : List V) : Prop := (¬ M a ∧ Rd H a (.lst vs)) ∨
    ∃ (o : Obj) (its : Array Value) (n : Nat), C.K.lookup a = some o ∧ o.cls = .type "list" ∧ o.dict = none ∧ o.data = .seq its n ∧ its.size ≤ sizeLine ∧ Vals vs its.toList
theorem LstAt.sq {C : RC} {M : Addr → Prop} {H : Hp} {a : Addr} {vs : List V} (h : LstAt C M H a vs) : SqL C.K H a vs := h.elim (fun x => .inl x.2) .inr

mutual
/-- v stands for d: ι where the shared objects stand, M what may change -/
inductive Rep (C : RC) (ι : List Addr) (M : Addr → Prop) (H : Hp) : V → D → Prop
  | non : Rep C ι M H .non .non
  | bl (b : Bool) : Rep C ι M H (.bl b) (.bl b)
  | int (i : Int) : Rep C ι M H (.int i) (.int i)
  | str (x : Str) : Rep C ι M H (.str x) (.str x)
  | tup {a : Addr} {vs : List V} {ds : List D} : TupAt C M H a vs → Reps C ι M H vs ds → Rep C ι M H (.ref a) (.tup ds)
  | lst {a : Addr} {vs : List V} {ds : List D} : ¬ M a → H a = some (.lst vs) → Reps C ι M H vs ds → Rep C ι M H (.ref a) (.lst ds)
  | scr {a : Addr} {vs : List V} {ds : List D} : LstAt C M H a vs → Reps C ι M H vs ds → Rep C ι M H (.ref a) (.scr ds)
  | dctK {a : Addr} {o : Obj} {kvs : List (Key × V)} {ds : List (D × D)} : ¬ M a → H a = some (.frz o (.dK kvs)) → RepKs C ι M H kvs ds → Rep C ι M H (.ref a) (.dct ds)
  | dctT {a : Addr} {o : Obj} {l : List (NestedKey × Addr × V)} {ds : List (D × D)} : ¬ M a → H a = some (.frz o (.ext (dtPhi C.w a l))) → RepTs C ι M H l ds → Rep C ι M H (.ref a) (.dct ds)
  | dctG {a : Addr} {xs : List (Str × V)} {ds : List (D × D)} : KDct C a xs → RepGs C ι M H xs ds → Rep C ι M H (.ref a) (.dct ds)
  | ins {a : Addr} {c : Nat} {dx : Addr} {vfs : List (Str × V)} {fs : List (Str × D)} : ¬ M a → H a = some (.ins (C.ca c) dx vfs) → RepFs C ι M H vfs fs → Rep C ι M H (.ref a) (.ins c fs)
  | ref {a : Addr} {n : Nat} : ι[n]? = some a → Rep C ι M H (.ref a) (.ref n)
inductive Reps (C : RC) (ι : List Addr) (M : Addr → Prop) (H : Hp) : List V → List D → Prop
  | nil : Reps C ι M H [] []
  | cons {v : V} {vs : List V} {d : D} {ds : List D} : Rep C ι M H v d → Reps C ι M H vs ds → Reps C ι M H (v :: vs) (d :: ds)
inductive RepKs (C : RC) (ι : List Addr) (M : Addr → Prop) (H : Hp) : List (Key × V) → List (D × D) → Prop
  | nil : RepKs C ι M H [] []
  | cons {k : Key} {v : V} {vs : List (Key × V)} {d : D} {ds : List (D × D)} : Rep C ι M H v d → RepKs C ι M H vs ds → RepKs C ι M H ((k, v) :: vs) ((kD k, d) :: ds)
inductive RepTs (C : RC) (ι : List Addr) (M : Addr → Prop) (H : Hp) : List (NestedKey × Addr × V) → List (D × D) → Prop
  | nil : RepTs C ι M H [] []
  | cons {k : NestedKey} {b : Addr} {v : V} {vs : List (NestedKey × Addr × V)} {d : D} {ds : List (D × D)} : TupKey k → Rep C ι M H (.ref b) (nkD k) → Rep C ι M H v d → RepTs C ι M H vs ds → RepTs C ι M H ((k, b, v) :: vs) ((nkD k, d) :: ds)
inductive RepGs (C : RC) (ι : List Addr) (M : Addr → Prop) (H : Hp) : List (Str × V) → List (D × D) → Prop
  | nil : RepGs C ι M H [] []
  | cons {x : Str} {v : V} {vs : List (Str × V)} {d : D} {ds : List (D × D)} : Rep C ι M H v d → RepGs C ι M H vs ds → RepGs C ι M H ((x, v) :: vs) ((.str x, d) :: ds)
inductive RepFs (C : RC) (ι : List Addr) (M : Addr → Prop) (H : Hp) : List (Str × V) → List (Str × D) → Prop
  | nil : RepFs C ι M H [] []
  | cons {x : Str} {v : V} {vs : List (Str × V)} {d : D} {ds : List (Str × D)} : Rep C ι M H v d → RepFs C ι M H vs ds → RepFs C ι M H ((x, v) :: vs) ((x, d) :: ds)
end

/-- how the scene may go on: shared objects are added, what stood stays (but the shared ones), what may change is new or could change before -/
structure Go (ι : List Addr) (M : Addr → Prop) (H : Hp) (ι' : List Addr) (M' : Addr → Prop) (H' : Hp) : Prop where
  pre : ∀ (n : Nat) (a : Addr), ι[n]? = some a → ι'[n]? = some a
  kept : ∀ a o, H a = some o → ¬ M a → H' a = some o
  new : ∀ a o, H a = some o → M' a → M a
  nw : ∀ a, a ∈ ι' → a ∈ ι ∨ H a = none
  live : ∀ a o, H a = some o → ∃ o', H' a = some o'

section
variable {C : RC} {ι ι' : List Addr} {M M' : Addr → Prop} {H H' : Hp}
theorem Go.rd (g : Go ι M H ι' M' H') {a : Addr} {u : HO} (m : ¬ M a) (r : Rd H a u) : ¬ M' a ∧ Rd H' a u := by
  rcases r with r | ⟨o, r⟩
  · exact ⟨fun z => m (g.new _ _ r z), .inl (g.kept _ _ r m)⟩
  · exact ⟨fun z => m (g.new _ _ r z), .inr ⟨o, g.kept _ _ r m⟩⟩
theorem TupAt.go {a : Addr} {vs : List V} (h : TupAt C M H a vs) (g : Go ι M H ι' M' H') : TupAt C M' H' a vs := h.elim (fun x => let ⟨o, q, d⟩ := x.2; .inl ⟨fun z => x.1 (g.new _ _ q z), o, g.kept _ _ q x.1, d⟩) .inr
theorem LstAt.go {a : Addr} {vs : List V} (h : LstAt C M H a vs) (g : Go ι M H ι' M' H') : LstAt C M' H' a vs := h.elim (fun x => .inl (g.rd x.1 x.2)) .inr
mutual
theorem Rep.go (g : Go ι M H ι' M' H') : ∀ {d : D} {v : V}, Rep C ι M H v d → Rep C ι' M' H' v d
  | _, _, .non => .non
  | _, _, .bl b => .bl b
  | _, _, .int i => .int i
  | _, _, .str x => .str x
  | _, _, .tup h r => .tup (h.go g) (Reps.go g r)
  | _, _, .lst m h r => .lst (fun z => m (g.new _ _ h z)) (g.kept _ _ h m) (Reps.go g r)
  | _, _, .scr h r => .scr (h.go g) (Reps.go g r)
  | _, _, .dctK m h r => .dctK (fun z => m (g.new _ _ h z)) (g.kept _ _ h m) (RepKs.go g r)
  | _, _, .dctT m h r => .dctT (fun z => m (g.new _ _ h z)) (g.kept _ _ h m) (RepTs.go g r)
  | _, _, .dctG h r => .dctG h (RepGs.go g r)
  | _, _, .ins m h r => .ins (fun z => m (g.new _ _ h z)) (g.kept _ _ h m) (RepFs.go g r)
  | _, _, .ref h => .ref (g.pre _ _ h)
theorem Reps.go (g : Go ι M H ι' M' H') : ∀ {ds : List D} {vs : List V}, Reps C ι M H vs ds → Reps C ι' M' H' vs ds
  | _, _, .nil => .nil
  | _, _, .cons h r => .cons (Rep.go g h) (Reps.go g r)
theorem RepKs.go (g : Go ι M H ι' M' H') : ∀ {ds : List (D × D)} {vs : List (Key × V)}, RepKs C ι M H vs ds → RepKs C ι' M' H' vs ds
  | _, _, .nil => .nil
  | _, _, .cons h r => .cons (Rep.go g h) (RepKs.go g r)
theorem RepTs.go (g : Go ι M H ι' M' H') : ∀ {ds : List (D × D)} {vs : List (NestedKey × Addr × V)}, RepTs C ι M H vs ds → RepTs C ι' M' H' vs ds
  | _, _, .nil => .nil
  | _, _, .cons t h0 h r => .cons t (Rep.go g h0) (Rep.go g h) (RepTs.go g r)
theorem RepGs.go (g : Go ι M H ι' M' H') : ∀ {ds : List (D × D)} {vs : List (Str × V)}, RepGs C ι M H vs ds → RepGs C ι' M' H' vs ds
  | _, _, .nil => .nil
  | _, _, .cons h r => .cons (Rep.go g h) (RepGs.go g r)
theorem RepFs.go (g : Go ι M H ι' M' H') : ∀ {ds : List (Str × D)} {vs : List (Str × V)}, RepFs C ι M H vs ds → RepFs C ι' M' H' vs ds
  | _, _, .nil => .nil
  | _, _, .cons h r => .cons (Rep.go g h) (RepFs.go g r)
end
theorem Go.refl : Go ι M H ι M H := ⟨fun _ _ h => h, fun _ _ h _ => h, fun _ _ _ h => h, fun _ h => .inl h, fun _ o h => ⟨o, h⟩⟩
theorem Go.trans {ι'' : List Addr} {M'' : Addr → Prop} {H'' : Hp} (g : Go ι M H ι' M' H') (f : Go ι' M' H' ι'' M'' H'') : Go ι M H ι'' M'' H'' :=
  ⟨fun n a h => f.pre n a (g.pre n a h), fun a o h m => f.kept a o (g.kept a o h m) fun z => m (g.new a o h z), fun a o h z =>
    Classical.byContradiction fun m => m (g.new a o h (f.new a o (g.kept a o h m) z)),
   fun a h => (f.nw a h).elim (g.nw a) fun n => .inr (by
    cases e : H a with
    | none => rfl
    | some o => obtain ⟨o', q⟩ := g.live a o e; rw [n] at q; cases q), fun a o h => let ⟨o', q⟩ := g.live a o h; f.live a o' q⟩
/-- a new object -/
theorem Go.laid {p : Addr} {o : HO} (hp : H p = none) : Go ι M H ι M (upd H p o) :=
  ⟨fun _ _ h => h, fun a u h _ => by rw [upd_ne (ne_of_none h hp)]; exact h, fun _ _ _ h => h, fun _ h => .inl h, fun a u h => ⟨u, by rw [upd_ne (ne_of_none h hp)]; exact h⟩⟩
/-- less may change -/
theorem Go.less (h : ∀ a, M' a → M a) : Go ι M H ι M' H := ⟨fun _ _ h => h, fun _ _ h _ => h, fun a _ _ z => h a z, fun _ h => .inl h, fun _ o h => ⟨o, h⟩⟩
/-- what may change is changed -/
theorem Go.write {p : Addr} {o : HO} (hp : M p) : Go ι M H ι M (upd H p o) :=
  ⟨fun _ _ h => h, fun a u h m => by rw [upd_ne (show a ≠ p from fun e => m (by rw [e]; exact hp))]; exact h, fun _ _ _ h => h, fun _ h => .inl h, fun a u h => by
    by_cases e : a = p
    · exact ⟨o, by rw [e]; exact upd_same⟩
    · exact ⟨u, by rw [upd_ne e]; exact h⟩⟩

theorem Reps.length : ∀ {ds : List D} {vs : List V}, Reps C ι M H vs ds → vs.length = ds.length
  | _, _, .nil => rfl
  | _, _, .cons _ r => congrArg (· + 1) r.length
theorem Reps.get : ∀ {ds : List D} {vs : List V}, Reps C ι M H vs ds → ∀ {i : Nat} {d : D}, ds[i]? = some d → ∃ v, vs[i]? = some v ∧ Rep C ι M H v d
  | _, _, .nil, _, _, e => by simp at e
  | _, _, .cons h _, 0, _, e => by simp at e; subst e; exact ⟨_, rfl, h⟩
  | _, _, .cons _ r, i + 1, d, e => by
    obtain ⟨v, h1, h2⟩ := r.get (i := i) (d := d) (by simpa using e)
    exact ⟨v, by simpa using h1, h2⟩
theorem Reps.append : ∀ {ds es : List D} {vs us : List V}, Reps C ι M H vs ds → Reps C ι M H us es → Reps C ι M H (vs ++ us) (ds ++ es)
  | _, _, _, _, .nil, s => s
  | _, _, _, _, .cons h r, s => .cons h (r.append s)
theorem Reps.snoc {ds : List D} {vs : List V} {v : V} {d : D} (r : Reps C ι M H vs ds) (h : Rep C ι M H v d) : Reps C ι M H (vs ++ [v]) (ds ++ [d]) := r.append (.cons h .nil)
end
end MP

set_option maxRecDepth 100000
/-! MP2: the small language and what it computes. -/
namespace MP
open PySem L2

/-! ### the language -/
inductive Bop where | add | sub | mul | fdiv | mod | pow | band
inductive Cop where | eq | ne | lt | le | gt | ge | inn | nin | isn | notn
/-- built-in functions and types that are called -/
inductive Blt where | len | int | list | tuple | abs | max | min | str | bool | dict | all
/-- methods of built-in objects that change nothing -/
inductive Bmt where | lindex | tindex | lcount | get | upper | join
/-- what is sorted by -/
inductive Srt where | str | len
inductive Ty where | int | str | bool | list | tuple | cls (c : Nat)
inductive Pat where | nm (i : Nat) | tp (l : List Nat)

mutual
inductive M where
  | var (i : Nat) | cst (d : D) | glo (g : Nat)
  | bin (op : Bop) (a b : M) | neg (a : M) | cmp (op : Cop) (a b : M) | chn (op op' : Cop) (a b c : M)
  | andd (a b : M) | orr (a b : M) | nott (a : M)
  | tup (l : Ms) | lst (l : Ms) | dct (l : Kvs)
  | idx (a b : M) | slc (a : M) (lo hi : Mo) | rev (a : M) | att (a : M) (f : Str)
  | call (f : Nat) (l : Ms) | mk (c : Nat) (l : Ms) | mth (o : M) (m : Str) (l : Ms)
  | blt (b : Blt) (l : Ms) | bm (b : Bmt) (o : M) (l : Ms) | isi (a : M) (t : Ty)
  | lrng (g : It) | lc (ws : List Nat) (elt : M) (p : Pat) (it : It) (cs : Ts) | lc2 (ws ws1 : List Nat) (elt : M) (p : Pat) (it : It) (cs : Ts) (p1 : Pat) (it1 : It) (cs1 : Ts) | dc (ws : List Nat) (k v : M) (p : Pat) (it : It) (cs : Ts)
  | upp (o : M)
  /-- sorted(m, key=..) -/
  | srt (k : Srt) (m : M)
  /-- len({x for x in m}), x the name i -/
  | slen (ws : List Nat) (i : Nat) (m : M)
  | join (o m : M)
  /-- f"{a:>2}: {b}" -/
  | fmt2 (a b : M)
  /-- a comparison by an own class's method -/
  | cmpO (op : Cop) (a b : M)
  /-- a comparison of what lists of shared objects hold -/
  | cmpV (op : Cop) (a b : M)
  /-- a new object is shared -/
  | sh (a : M)
  /-- an instance that stays shared -/
  | mkS (c : Nat) (l : Ms)
  /-- [elt for p in m if cs], m perhaps shared -/
  | lcR (ws : List Nat) (elt : M) (p : Pat) (m : M) (cs : Ts)
inductive Ms where | nil | cons (m : M) (l : Ms)
inductive Mo where | no | so (m : M)
inductive Kvs where | nil | cons (k v : M) (l : Kvs)
/-- a test -/
inductive T where | v (m : M) | and (a b : T) | or (a b : T) | not (a : T)
inductive Ts where | nil | cons (c : T) (l : Ts)
/-- what is walked -/
inductive It where | val (m : M) | rng (a : M) | rng2 (a b : M) | enum (m : M) | zip (a b : M)
end

mutual
inductive S where
  | expr (a : M) | set (i : Nat) (a : M) | setN (i : Nat) (a : M) | unp (is : List Nat) (a : M) | par (i j : Nat) (a b : M)
  | put (i : Nat) (k v : M) | putS (o k v : M) | satt (o : M) (f : Str) (v : M) | aug (i : Nat) (op : Bop) (a : M)
  | iff (c : T) (a b : Ss) | whl (c : T) (b : Ss) | forr (p : Pat) (it : It) (b : Ss)
  | ret (a : M) | retn | brk | cnt | pass
  | app (i : Nat) (a : M) | ext (i : Nat) (a : M) | pop (j i : Nat)
  | never | frz (i : Nat) | wip (is : List Nat)
  | retF (a : M) | retO (i : Nat) | sattN (i : Nat) (f : Str) (v : M) | putO (o k v : M) | clr (i : Nat)
  | appR (o a : M) | clrR (o : M) | forR (p : Pat) (m : M) (b : Ss) | upd (i : Nat) (a : M)
inductive Ss where | nil | cons (s : S) (l : Ss)
end

def Kvs.len : Kvs → Nat
  | .nil => 0
  | .cons _ _ l => l.len + 1
def Ms.len : Ms → Nat
  | .nil => 0
  | .cons _ l => l.len + 1

/-! ### results -/
abbrev MH := List D
inductive R (α : Type) where
  | ok (a : α) (h : MH) | ex (c : Nat) (fs : List (Str × D)) (h : MH) | no
@[inline] def R.bind {α β : Type} (x : R α) (f : α → MH → R β) : R β := match x with
  | .ok a h => f a h
  | .ex c fs h => .ex c fs h
  | .no => .no
def R.of {α : Type} (o : Option α) (h : MH) : R α := match o with
  | some a => .ok a h
  | none => .no
inductive Slot where | no | val (d : D) | own (d : D)
abbrev Ev := List Slot
/-- how a statement ends -/
inductive O where
  | nx (e : Ev) (h : MH) | rt (d : D) (h : MH) | rtF (d : D) (h : MH) | bk (e : Ev) (h : MH) | ct (e : Ev) (h : MH) | ex (c : Nat) (fs : List (Str × D)) (e : Ev) (h : MH) | no

/-- what the text's classes and constants are -/
structure Tb where
  meth : Nat → Str → Option Nat
  /-- a field's name, no class of it has it -/
  fld : Nat → Str → Bool
  init : Nat → Option Nat
  sub : Nat → Nat → Bool
  glo : Nat → D
  /-- the defaults that are added where so many arguments are given -/
  dfl : Nat → Nat → List D
  /-- bound of a while's turns -/
  N : Nat

/-! ### values -/
abbrev lim : Nat := 10000000
mutual
def fit : D → Nat → Bool
  | .non, _ => true
  | .bl _, _ => true
  | .int _, _ => true
  | .str x, _ => PySem.PyData.strOk x
  | .tup l, k => (match k with | 0 => false | k + 1 => fitL l k)
  | .lst l, k => (match k with | 0 => false | k + 1 => fitL l k)
  | _, _ => false
def fitL : List D → Nat → Bool
  | [], _ => true
  | d :: r, k => fit d k && fitL r k
end
mutual
def eqD : D → D → Bool
  | .non, .non => true
  | .bl a, .bl b => a == b
  | .bl a, .int j => decide ((if a then 1 else 0) = j)
  | .int i, .bl b => decide (i = (if b then 1 else 0))
  | .int i, .int j => decide (i = j)
  | .str x, .str y => decide (x = y)
  | .tup l, .tup m => eqDL l m
  | .lst l, .lst m => eqDL l m
  | _, _ => false
def eqDL : List D → List D → Bool
  | [], [] => true
  | x :: xs, y :: ys => eqD x y && eqDL xs ys
  | _, _ => false
end
/-- keys: 0 an int or a text, 1 a nested tuple -/
def kk : D → Nat
  | .int _ => 0
  | .str _ => 0
  | .tup l => (match D.nkl l with
    | some k => if (NestedKey.tup k).depth ≤ 8 then 1 else 2
    | none => 2)
  | _ => 2
def dget (l : List (D × D)) (k : D) : Option D := (l.find? fun p => eqD p.1 k).map (·.2)
def dput : List (D × D) → D → D → List (D × D)
  | [], k, v => [(k, v)]
  | (a, b) :: r, k, v => if eqD a k then (a, v) :: r else (a, b) :: dput r k v
/-- k may be asked of (put into) a dict of l -/
def kfit (l : List (D × D)) (k : D) : Bool := match l with
  | [] => kk k != 2
  | (a, _) :: _ => kk k != 2 && kk a == kk k
def flatD : D → Bool
  | .non | .bl _ | .int _ | .str _ => true
  | _ => false

def binD : Bop → D → D → Option D
  | .add, .int i, .int j => some (.int (i + j))
  | .add, .str x, .str y => if x.length + y.length ≤ lim then some (.str (x ++ y)) else none
  | .add, .tup a, .tup b => if a.length + b.length ≤ lim then some (.tup (a ++ b)) else none
  | .add, .lst a, .lst b => if a.length + b.length ≤ lim then some (.lst (a ++ b)) else none
  | .sub, .int i, .int j => some (.int (i - j))
  | .mul, .int i, .int j => if (-18446744073709551616 < i ∧ i < 18446744073709551616) ∨ (-18446744073709551616 < j ∧ j < 18446744073709551616) then some (.int (i * j)) else none
  | .fdiv, .int i, .int j => if 0 < j ∧ j < 1073741824 then some (.int (i / j)) else none
  | .mod, .int i, .int j => if 0 < j then some (.int (i % j)) else none
  | .pow, .int i, .int j => if 0 ≤ j ∧ j ≤ 1000000 ∧ i.natAbs < 18446744073709551616 then some (.int (i ^ j.toNat)) else none
  | .band, .int i, .int j => some (.int (Builtin.bitAnd i j))
  | _, _, _ => none
/-- x in y -/
def inD : D → D → Option Bool
  | x, .lst l => if fit x 60 && fitL l 60 then some (l.any fun z => eqD z x) else none
  | x, .tup l => if flatD x && l.all flatD then some (l.any fun z => eqD z x) else none
  | x, .dct l => if kfit l x then some (dget l x).isSome else none
  | .str x, .str y => (match x.cps.toList with
    | [c] => some (decide (c ∈ y.cps.toList))
    | _ => some (!(Builtin.Str.occurrences y x 0 y.length 1).isEmpty))
  | _, _ => none
def eqO : D → D → Option Bool
  | .str x, .str y => some (decide (x = y))
  | x, y => if fit x 60 && fit y 60 then some (eqD x y) else none
def cmpD : Cop → D → D → Option Bool
  | .eq, x, y => eqO x y
  | .ne, x, y => (eqO x y).map (!·)
  | .lt, .int i, .int j => some (decide (i < j))
  | .le, .int i, .int j => some (decide (i ≤ j))
  | .gt, .int i, .int j => some (decide (j < i))
  | .ge, .int i, .int j => some (decide (j ≤ i))
  | .lt, .str i, .str j => some (decide (i.cps.toList < j.cps.toList))
  | .gt, .str i, .str j => some (decide (j.cps.toList < i.cps.toList))
  | .inn, x, y => inD x y
  | .nin, x, y => (inD x y).map (!·)
  | .isn, .non, .non => some true
  | .isn, _, .non => some false
  | .notn, .non, .non => some false
  | .notn, _, .non => some true
  | _, _, _ => none
def cmpDV : Cop → D → D → Option Bool
  | .eq, x, y => if fit x 60 && fit y 60 then some (eqD x y) else none
  | .ne, x, y => if fit x 60 && fit y 60 then some (!eqD x y) else none
  | _, _, _ => none
def idxD : D → D → Option D
  | .lst l, .int i => L2.atI l i
  | .tup l, .int i => L2.atI l i
  | .scr l, .int i => L2.atI l i
  | .str x, .int i => if x.length ≤ lim then (L2.atI x.cps.toList i).map fun c => .str ⟨#[c]⟩ else none
  | .dct l, k => if kfit l k then dget l k else none
  | _, _ => none
def cutL {α : Type} (xs : List α) (lo hi : Option Int) : List α := (xs.drop (HT.sIx xs.length 0 lo)).take (HT.sIx xs.length xs.length hi - HT.sIx xs.length 0 lo)
def slcD : D → Option Int → Option Int → Option D
  | .lst l, lo, hi => some (.lst (cutL l lo hi))
  | .tup l, lo, hi => some (.tup (cutL l lo hi))
  | .str x, lo, hi => if x.length ≤ lim then some (.str (L2.cutS x lo hi)) else none
  | _, _, _ => none
def truD : D → Option Bool
  | .non => some false
  | .bl b => some b
  | .int i => some (i != 0)
  | .str x => if x.length ≤ lim then some (x.length != 0) else none
  | .lst l => some (!l.isEmpty)
  | .tup l => some (!l.isEmpty)
  | _ => none
def itemsD : D → Option (List D)
  | .lst l => some l
  | .tup l => some l
  | .dct l => some (l.map (·.1))
  | .str x => some (x.cps.toList.map fun c => .str ⟨#[c]⟩)
  | _ => none
def allBl : List D → Option Bool
  | [] => some true
  | .bl b :: r => (allBl r).map (b && ·)
  | _ :: _ => none
def bltD : Blt → List D → Option D
  | .len, [.str x] => if x.length ≤ lim then some (.int x.length) else none
  | .len, [.scr l] => some (.int l.length)
  | .len, [.lst l] => some (.int l.length)
  | .len, [.tup l] => some (.int l.length)
  | .len, [.dct l] => some (.int l.length)
  | .int, [.int i] => some (.int i)
  | .int, [.bl b] => some (.int (if b then 1 else 0))
  | .list, [.lst l] => some (.lst l)
  | .list, [.tup l] => some (.lst l)
  | .list, [.dct l] => some (.lst (l.map (·.1)))
  | .dict, [.dct l] => if (l.all fun p => kk p.1 == 0) then some (.dct l) else none
  | .all, [.lst l] => (allBl l).map .bl
  | .tuple, [.lst l] => some (.tup l)
  | .tuple, [.tup l] => some (.tup l)
  | .abs, [.int i] => some (.int (if i < 0 then -i else i))
  | .max, [.int i, .int j] => some (.int (if j > i then j else i))
  | .min, [.int i, .int j] => some (.int (if j < i then j else i))
  | .str, [.str x] => some (.str x)
  | .str, [.int i] => if i.natAbs < 2 ^ 64 then some (.str (toString i)) else none
  | .bool, [.bl b] => some (.bl b)
  | .bool, [.int i] => some (.bl (i != 0))
  | _, _ => none
def indexD (l : List D) (x : D) : Option Nat := if fit x 60 && fitL l 60 then l.findIdx? (fun z => eqD z x) else none
/-- how many unlike ones are in the row that are not among the seen -/
def distS (seen : List D) : List D → Nat
  | [] => 0
  | d :: r => if seen.any fun z => eqD z d then distS seen r else distS (d :: seen) r + 1
/-- texts in the order of their signs -/
def ltS : D → D → Bool
  | .str x, .str y => decide (x.cps.toList < y.cps.toList)
  | _, _ => false
/-- x into a sorted row, ahead of its equals -/
def insB {α : Type} (lt : α → α → Bool) (x : α) : List α → List α
  | [] => [x]
  | y :: r => if lt y x then y :: insB lt x r else x :: y :: r
def isortB {α : Type} (lt : α → α → Bool) : List α → List α
  | [] => []
  | x :: r => insB lt x (isortB lt r)
/-- a list or tuple -/
def seqD : D → Option (List D)
  | .lst l => some l
  | .tup l => some l
  | _ => none
def strsD : List D → Option (List Str)
  | [] => some []
  | .str x :: r => (strsD r).map (x :: ·)
  | _ :: _ => none
def lenS : List Str → Nat
  | [] => 0
  | x :: r => x.length + lenS r
def isStrD : D → Bool
  | .str _ => true
  | _ => false
def bmD : Bmt → D → List D → Option D
  | .lindex, .lst l, [x] => (indexD l x).map fun (j : Nat) => .int j
  | .tindex, .tup l, [.str x] => if l.all isStrD then (l.findIdx? fun z => eqD z (.str x)).map fun (j : Nat) => .int j else none
  | .lcount, .lst l, [x] => if fit x 60 && fitL l 60 then some (.int (l.countP fun z => eqD z x)) else none
  | .get, .dct l, [k, v] => if kfit l k then some ((dget l k).getD v) else none
  | _, _, _ => none
/-- what a method is of -/
def kindT : D → Option String
  | .str _ => some "str"
  | .lst _ => some "list"
  | .tup _ => some "tuple"
  | .dct _ => some "dict"
  | _ => none
def bmK : Bmt → String
  | .lindex => "list" | .tindex => "tuple" | .lcount => "list" | .get => "dict" | .upper => "str" | .join => "str"
def isD (tb : Tb) : D → Ty → Option Bool
  | .int _, .int => some true
  | .bl _, .int => some true
  | .bl _, .bool => some true
  | .str _, .str => some true
  | .lst _, .list => some true
  | .tup _, .tuple => some true
  | .ins c _, .cls t => some (tb.sub c t)
  | .non, _ => some false
  | .bl _, _ => some false
  | .int _, _ => some false
  | .str _, _ => some false
  | .lst _, _ => some false
  | .tup _, _ => some false
  | .ins _ _, _ => some false
  | _, _ => none
def rngL (a b : Int) : List D := (List.range (b - a).toNat).map fun (k : Nat) => .int (a + (k : Int))
def rngOk (i : Int) : Bool := decide (-4611686018427387904 ≤ i ∧ i < 4611686018427387904)
def fget (fs : List (Str × D)) (f : Str) : Option D := fs.lookup f
def fput (f : Str) (v : D) : List (Str × D) → List (Str × D)
  | [] => [(f, v)]
  | (g, u) :: r => if g = f then (g, v) :: r else (g, u) :: fput f v r

mutual
/-- no shared object from n on is named -/
def low (n : Nat) : D → Bool
  | .ref k => decide (k < n)
  | .tup l => lowL n l
  | .lst l => lowL n l
  | .scr l => lowL n l
  | .dct l => lowK n l
  | .ins _ fs => lowF n fs
  | _ => true
def lowL (n : Nat) : List D → Bool
  | [] => true
  | d :: r => low n d && lowL n r
def lowK (n : Nat) : List (D × D) → Bool
  | [] => true
  | (a, b) :: r => low n a && low n b && lowK n r
def lowF (n : Nat) : List (Str × D) → Bool
  | [] => true
  | (_, b) :: r => low n b && lowF n r
end
/-- a field's value, content in the place of a shared object from n on -/
def thaw (n : Nat) (h : MH) : D → Option D
  | .ref k => if k < n then some (.ref k) else (match h[k]? with
    | some (.ins _ _) => none
    | some d => if low n d then some d else none
    | none => none)
  | d => if low n d then some d else none
def thawF (n : Nat) (h : MH) : List (Str × D) → Option (List (Str × D))
  | [] => some []
  | (f, d) :: r => match thaw n h d, thawF n h r with
    | some e, some s => some ((f, e) :: s)
    | _, _ => none
/-- the instance at n, all of it content, the heap as before -/
def frozen (n : Nat) (h : MH) : R D := match h[n]? with
  | some (.ins c fs) => (match thawF n h fs with
    | some gs => if (h.take n).all (low n) then .ok (.ins c gs) (h.take n) else .no
    | none => .no)
  | _ => .no

/-! ### what it computes -/
section
variable (tb : Tb) (Φ : Nat → List D → MH → R D)
/-- what a shared object holds -/
def view (d : D) (h : MH) : Option D := match d with
  | .ref n => h[n]?
  | d => some d
def bindP (p : Pat) (d : D) (e : Ev) : Option Ev := match p, d with
  | .nm i, d => some (e.set i (.val d))
  | .tp is, .tup l => if is.length = l.length then some ((is.zip l).foldl (fun e q => e.set q.1 (.val q.2)) e) else none
  | _, _ => none
def wipeE (e : Ev) (ws : List Nat) : Ev := ws.foldl (fun e i => e.set i .no) e
/-- no slot of these is own -/
def noOwn (e : Ev) (ws : List Nat) : Bool := ws.all fun i => match e[i]? with
  | some (.own _) => false
  | _ => true
def patIn (ws : List Nat) : Pat → Bool
  | .nm i => ws.contains i
  | .tp l => l.all (ws.contains ·)
def pairsD : List D → List D → List D
  | a :: r, b :: s => .tup [a, b] :: pairsD r s
  | _, _ => []
def enumD (k : Nat) : List D → List D
  | [] => []
  | a :: r => .tup [.int k, a] :: enumD (k + 1) r

/-- an operand: a value, or an own list or dict by its slot -/
inductive Od where | d (d : D) | own (i : Nat)
/-- (r is what m computes) -/
def opd (m : M) (r : R D) (e : Ev) (h : MH) : R Od := match m with
  | .var i => (match e[i]? with
    | some (.val d) => .ok (.d d) h
    | some (.own _) => .ok (.own i) h
    | _ => .no)
  | _ => r.bind fun d h => .ok (.d d) h
/-- an own method of an operand, called by the machine -/
def ownR (c : Nat) (m : Str) (x : Od) (ds : List D) (h : MH) : R D := match x, tb.meth c m with
  | .d o, some f => Φ f (o :: ds) h
  | _, _ => .no
/-- an operand's content -/
def vo (e : Ev) (h : MH) : Od → Option D
  | .d d => view d h
  | .own i => (match e[i]? with
    | some (.own d) => some d
    | _ => none)
/-- .. of what is walked -/
def vi (e : Ev) : Od → Option D
  | .d (.ref _) => none
  | .d d => some d
  | .own _ => none
def vos (e : Ev) (h : MH) : List Od → Option (List D)
  | [] => some []
  | o :: r => match vo e h o, vos e h r with
    | some d, some l => some (d :: l)
    | _, _ => none
/-- a shared object's content -/
def dp1 (h : MH) : D → D
  | .ref n => (h[n]?).getD (.ref n)
  | x => x
/-- a list of shared objects, with what they hold -/
def dpV (h : MH) : D → D
  | .lst l => .lst (l.map (dp1 h))
  | d => d
/-- .. of what may be changed meanwhile: get is what stands there now, n a bound -/
def turnsR {α : Type} (get : MH → Option (List D)) (f : D → α → MH → R α) : Nat → Nat → α → MH → R α
  | 0, i, acc, h => (match get h with
    | some l => if l.length ≤ i then .ok acc h else .no
    | none => .no)
  | n + 1, i, acc, h => (match get h with
    | some l => (match l[i]? with
      | some d => (f d acc h).bind fun acc h => turnsR get f n (i + 1) acc h
      | none => .ok acc h)
    | none => .no)
/-- the turns of a comprehension's clause: f is a turn, acc what is made -/
def turns {α : Type} (f : D → α → MH → R α) : List D → α → MH → R α
  | [], acc, h => .ok acc h
  | d :: r, acc, h => (f d acc h).bind fun acc h => turns f r acc h

mutual
def ev : M → Ev → MH → R D
  | .var i, e, h => (match e[i]? with
    | some (.val d) => .ok d h
    | _ => .no)
  | .cst d, _, h => .ok d h
  | .glo g, _, h => .ok (tb.glo g) h
  | .bin op a b, e, h => (opd a (ev a e h) e h).bind fun x h => (opd b (ev b e h) e h).bind fun y h => (match vo e h x, vo e h y with
    | some x, some y => .of (binD op x y) h
    | _, _ => .no)
  | .neg a, e, h => (ev a e h).bind fun x h => (match x with
    | .int i => .ok (.int (-i)) h
    | _ => .no)
  | .cmp op a b, e, h => (opd a (ev a e h) e h).bind fun x h => (opd b (ev b e h) e h).bind fun y h => (match vo e h x, vo e h y with
    | some x, some y => .of ((cmpD op x y).map D.bl) h
    | _, _ => .no)
  | .chn op op' a b c, e, h => (opd a (ev a e h) e h).bind fun x h => (opd b (ev b e h) e h).bind fun y h => (match vo e h x, vo e h y with
    | some dx, some dy => (match cmpD op dx dy with
      | some true => (opd c (ev c e h) e h).bind fun z h => (match vo e h y, vo e h z with
        | some dy, some dz => .of ((cmpD op' dy dz).map D.bl) h
        | _, _ => .no)
      | some false => .ok (.bl false) h
      | none => .no)
    | _, _ => .no)
  | .andd a b, e, h => (ev a e h).bind fun x h => (match x with
    | .bl true => ev b e h
    | .bl false => .ok (.bl false) h
    | _ => .no)
  | .orr a b, e, h => (ev a e h).bind fun x h => (match x with
    | .bl false => ev b e h
    | .bl true => .ok (.bl true) h
    | _ => .no)
  | .nott a, e, h => (ev a e h).bind fun x h => (match x with
    | .bl b => .ok (.bl (!b)) h
    | _ => .no)
  | .tup l, e, h => (evs l e h).bind fun ds h => if ds.length ≤ lim then .ok (.tup ds) h else .no
  | .lst l, e, h => (evs l e h).bind fun ds h => if ds.length ≤ lim then .ok (.lst ds) h else .no
  | .dct l, e, h => evd l e [] h
  | .idx a b, e, h => (opd a (ev a e h) e h).bind fun x h => (ev b e h).bind fun y h => (match vo e h x with
    | some (.ins c _) => ownR tb Φ c "__getitem__" x [y] h
    | some x => .of (idxD x y) h
    | none => .no)
  | .slc a lo hi, e, h => (opd a (ev a e h) e h).bind fun x h => (evo lo e h).bind fun l h => (evo hi e h).bind fun u h => (match vo e h x with
    | some x => .of (slcD x l u) h
    | none => .no)
  | .rev a, e, h => (opd a (ev a e h) e h).bind fun x h => (match vo e h x with
    | some (.lst l) => .ok (.lst l.reverse) h
    | some (.tup l) => .ok (.tup l.reverse) h
    | _ => .no)
  | .att a f, e, h => (ev a e h).bind fun x h => (match view x h with
    | some (.ins c fs) => if tb.fld c f then .of (fget fs f) h else .no
    | _ => .no)
  | .call f l, e, h => (evs l e h).bind fun ds h => Φ f (ds ++ tb.dfl f ds.length) h
  | .mk c l, e, h => (evs l e h).bind fun ds h => (match tb.init c with
    | some f => (Φ f (.ref h.length :: (ds ++ tb.dfl f (ds.length + 1))) (h ++ [.ins c []])).bind fun r h' => (match r with
      | .non => frozen h.length h'
      | _ => .no)
    | none => .no)
  | .mth o m l, e, h => (ev o e h).bind fun x h => (match view x h with
    | some (.ins c fs) => (match fget fs m, tb.meth c m with
      | none, some f => (evs l e h).bind fun ds h => Φ f (x :: ds) h
      | _, _ => .no)
    | _ => .no)
  | .blt b l, e, h => (evOs l e h).bind fun os h => (match vos e h os with
    | some ds => .of (bltD b ds) h
    | none => .no)
  | .bm b o l, e, h => (opd o (ev o e h) e h).bind fun x h => (match vo e h x with
    | some d0 => if decide (kindT d0 = some (bmK b)) then (evs l e h).bind fun ds h => (match vo e h x with
      | some x => .of (bmD b x ds) h
      | none => .no) else .no
    | none => .no)
  | .isi a t, e, h => (opd a (ev a e h) e h).bind fun x h => (match vo e h x with
    | some x => .of ((isD tb x t).map D.bl) h
    | none => .no)
  | .lrng g, e, h => (evI g e h).bind fun ds h => if ds.length ≤ lim then .ok (.lst ds) h else .no
  | .lc ws elt p it cs, e, h => if noOwn e ws && patIn ws p then (evI it e h).bind fun ds h => (turns (fun d acc h => (match bindP p d (wipeE e ws) with
      | some e' => (evC cs e' h).bind fun b h => if b then (ev elt e' h).bind fun y h => (if acc.length < lim then .ok (acc ++ [y]) h else .no) else .ok acc h
      | none => .no)) ds [] h).bind fun acc h => .ok (.lst acc) h else .no
  | .lc2 ws ws1 elt p it cs p1 it1 cs1, e, h => if noOwn e ws && patIn ws p && patIn ws1 p1 && ws1.all (ws.contains ·) then (evI it e h).bind fun ds h => (turns (fun d acc h => (match bindP p d (wipeE e ws) with
      | some e' => (evC cs e' h).bind fun b h => if b then (evI it1 e' h).bind fun ds1 h => turns (fun d acc h => (match bindP p1 d (wipeE e' ws1) with
          | some e2 => (evC cs1 e2 h).bind fun b h => if b then (ev elt e2 h).bind fun y h => (if acc.length < lim then .ok (acc ++ [y]) h else .no) else .ok acc h
          | none => .no)) ds1 acc h else .ok acc h
      | none => .no)) ds [] h).bind fun acc h => .ok (.lst acc) h else .no
  | .dc ws k v p it cs, e, h => if noOwn e ws && patIn ws p then (evI it e h).bind fun ds h => (turns (fun d acc h => (match bindP p d (wipeE e ws) with
      | some e' => (evC cs e' h).bind fun b h => if b then (ev k e' h).bind fun x h => (ev v e' h).bind fun y h => (if kk x == 0 && decide (acc.length < lim) then .ok (dput acc x y) h else .no) else .ok acc h
      | none => .no)) ds [] h).bind fun acc h => .ok (.dct acc) h else .no
  | .upp o, e, h => (ev o e h).bind fun x h => (match x with
    | .str x => if x.length ≤ 5592405 then .ok (.str (Txt.upper x)) h else .no
    | _ => .no)
  | .srt k m, e, h => (opd m (ev m e h) e h).bind fun x h => (match k, vo e h x with
    | .str, some (.lst l) => if l.all isStrD && decide (l.length < 60) then .ok (.lst (isortB ltS l)) h else .no
    | _, _ => .no)
  | .slen ws i m, e, h => if noOwn e ws && ws.contains i && decide (i < e.length) then (opd m (ev m e h) e h).bind fun x h => (match vi e x with
    | some (.lst l) => if l.all isStrD && decide (l.length < 60) then .ok (.int (distS [] l)) h else .no
    | _ => .no) else .no
  | .join o m, e, h => (ev o e h).bind fun s h => (opd m (ev m e h) e h).bind fun x h => (match s, vo e h x with
    | .str s, some (.lst l) => (match strsD l with
      | some xs => if lenS xs + l.length * s.length ≤ lim then .ok (.str (Txt.join s xs)) h else .no
      | none => .no)
    | _, _ => .no)
  | .fmt2 a b, e, h => (ev a e h).bind fun x h => (ev b e h).bind fun y h => (match x, y with
    | .int i, .str s => if 0 ≤ i ∧ i < 100 ∧ s.length ≤ lim then .ok (.str ((if i < 10 then ⟨#[32]⟩ ++ Str.ofString (toString i) else Str.ofString (toString i)) ++ ⟨#[58, 32]⟩ ++ s)) h else .no
    | _, _ => .no)
  | .cmpO op a b, e, h => (ev a e h).bind fun x h => (ev b e h).bind fun y h => (match op, view x h with
    | .eq, some (.ins c _) => (match tb.meth c "__eq__" with
      | some f => Φ f [x, y] h
      | none => .no)
    | .ne, some (.ins c _) => (match tb.meth c "__eq__" with
      | some f => (Φ f [x, y] h).bind fun r h => (match r with
        | .bl b => .ok (.bl (!b)) h
        | _ => .no)
      | none => .no)
    | .le, some (.ins c _) => (match tb.meth c "__le__" with
      | some f => Φ f [x, y] h
      | none => .no)
    | _, _ => .no)
  | .cmpV op a b, e, h => (opd a (ev a e h) e h).bind fun x h => (opd b (ev b e h) e h).bind fun y h => (match vo e h x, vo e h y with
    | some x, some y => .of ((cmpDV op (dpV h x) (dpV h y)).map D.bl) h
    | _, _ => .no)
  | .sh a, e, h => (ev a e h).bind fun d h => (match d with
    | .lst _ => .ok (.ref h.length) (h ++ [d])
    | .dct _ => .ok (.ref h.length) (h ++ [d])
    | _ => .no)
  | .mkS c l, e, h => (evs l e h).bind fun ds h => (match tb.init c with
    | some f => (Φ f (.ref h.length :: (ds ++ tb.dfl f (ds.length + 1))) (h ++ [.ins c []])).bind fun r h' => (match r with
      | .non => .ok (.ref h.length) h'
      | _ => .no)
    | none => .no)
  | .lcR ws elt p m cs, e, h => if noOwn e ws && patIn ws p then (ev m e h).bind fun x h => (match (view x h).bind seqD with
    | some ds => (turnsR (fun h => (view x h).bind seqD) (fun d acc h => (match bindP p d (wipeE e ws) with
      | some e' => (evC cs e' h).bind fun b h => if b then (ev elt e' h).bind fun y h => (if acc.length < lim then .ok (acc ++ [y]) h else .no) else .ok acc h
      | none => .no)) ds.length 0 [] h).bind fun acc h => .ok (.lst acc) h
    | none => .no) else .no
def evs : Ms → Ev → MH → R (List D)
  | .nil, _, h => .ok [] h
  | .cons m l, e, h => (ev m e h).bind fun d h => (evs l e h).bind fun ds h => .ok (d :: ds) h
def evOs : Ms → Ev → MH → R (List Od)
  | .nil, _, h => .ok [] h
  | .cons m l, e, h => (opd m (ev m e h) e h).bind fun d h => (evOs l e h).bind fun ds h => .ok (d :: ds) h
def evd : Kvs → Ev → List (D × D) → MH → R D
  | .nil, _, acc, h => .ok (.dct acc) h
  | .cons k v l, e, acc, h => (ev k e h).bind fun x h => (ev v e h).bind fun y h => if kk x == 0 then evd l e (dput acc x y) h else .no
def evo : Mo → Ev → MH → R (Option Int)
  | .no, _, h => .ok none h
  | .so m, e, h => (ev m e h).bind fun d h => (match d with
    | .int i => .ok (some i) h
    | _ => .no)
def evI : It → Ev → MH → R (List D)
  | .val m, e, h => (opd m (ev m e h) e h).bind fun x h => .of ((vi e x).bind itemsD) h
  | .rng a, e, h => (ev a e h).bind fun d h => (match d with
    | .int j => if rngOk j then .ok (rngL 0 j) h else .no
    | _ => .no)
  | .rng2 a b, e, h => (ev a e h).bind fun x h => (ev b e h).bind fun y h => (match x, y with
    | .int i, .int j => if rngOk i && rngOk j then .ok (rngL i j) h else .no
    | _, _ => .no)
  | .enum m, e, h => (ev m e h).bind fun d h => (match d with
    | .lst l => .ok (enumD 0 l) h
    | .tup l => .ok (enumD 0 l) h
    | _ => .no)
  | .zip a b, e, h => (ev a e h).bind fun x h => (ev b e h).bind fun y h => (match x, y with
    | .lst l, .lst m => .ok (pairsD l m) h
    | .tup l, .tup m => .ok (pairsD l m) h
    | _, _ => .no)
/-- a clause's tests -/
def evC : Ts → Ev → MH → R Bool
  | .nil, _, h => .ok true h
  | .cons c l, e, h => (evT c e h).bind fun b h => if b then evC l e h else .ok false h
/-- a test -/
def evT : T → Ev → MH → R Bool
  | .and a b, e, h => (evT a e h).bind fun x h => if x then evT b e h else .ok false h
  | .or a b, e, h => (evT a e h).bind fun x h => if x then .ok true h else evT b e h
  | .not a, e, h => (evT a e h).bind fun x h => .ok (!x) h
  | .v m, e, h => (opd m (ev m e h) e h).bind fun x h => .of ((vo e h x).bind truD) h
end
/-- an own list is walked -/
def ownIt (e : Ev) : It → Bool
  | .val (.var i) => (match e[i]? with
    | some (.own _) => true
    | _ => false)
  | _ => false
/-- a dict or list with v at k -/
def setD : D → D → D → Option D
  | .dct l, k, v => if kfit l k && decide (l.length < lim) then some (.dct (dput l k v)) else none
  | .lst l, .int i, v => (L2.ixN l.length i).map fun j => .lst (l.set j v)
  | _, _, _ => none
/-- op= -/
def augD : Bop → D → D → Option D
  | .add, .int x, .int y => some (.int (x + y))
  | .sub, .int x, .int y => some (.int (x - y))
  | _, _, _ => none
/-- l.update(m) -/
def updD (l : List (D × D)) : List (D × D) → Option (List (D × D))
  | [] => some l
  | (k, v) :: m => if kfit l k && decide (l.length < lim) then updD (dput l k v) m else none
def freshD : D → Bool
  | .lst _ => true
  | .dct _ => true
  | _ => false
def loopW (c : Ev → MH → R Bool) (b : Ev → MH → O) : Nat → Ev → MH → O
  | 0, _, _ => .no
  | n + 1, e, h => (match c e h with
    | .ok true h => (match b e h with
      | .nx e h => loopW c b n e h
      | .ct e h => loopW c b n e h
      | .bk e h => .nx e h
      | o => o)
    | .ok false h => .nx e h
    | .ex c fs h => .ex c fs e h
    | .no => .no)
def loopF (f : D → Ev → MH → O) : List D → Ev → MH → O
  | [], e, h => .nx e h
  | d :: r, e, h => (match f d e h with
    | .nx e h => loopF f r e h
    | .ct e h => loopF f r e h
    | .bk e h => .nx e h
    | o => o)
/-- a walk over what may be changed meanwhile -/
def loopR (get : MH → Option (List D)) (f : D → Ev → MH → O) : Nat → Nat → Ev → MH → O
  | 0, i, e, h => (match get h with
    | some l => if l.length ≤ i then .nx e h else .no
    | none => .no)
  | n + 1, i, e, h => (match get h with
    | some l => (match l[i]? with
      | some d => (match f d e h with
        | .nx e h => loopR get f n (i + 1) e h
        | .ct e h => loopR get f n (i + 1) e h
        | .bk e h => .nx e h
        | o => o)
      | none => .nx e h)
    | none => .no)
/-- an expression's result within a statement -/
@[inline] def R.st {α : Type} (x : R α) (e : Ev) (f : α → MH → O) : O := match x with
  | .ok a h => f a h
  | .ex c fs h => .ex c fs e h
  | .no => .no
def O.of (o : Option Ev) (h : MH) : O := match o with
  | some e => .nx e h
  | none => .no
mutual
def exec : S → Ev → MH → O
  | .expr a, e, h => (ev tb Φ a e h).st e fun _ h => .nx e h
  | .set i a, e, h => (ev tb Φ a e h).st e fun d h => .nx (e.set i (.val d)) h
  | .setN i a, e, h => (ev tb Φ a e h).st e fun d h => if freshD d then .nx (e.set i (.own d)) h else .no
  | .unp is a, e, h => (ev tb Φ a e h).st e fun d h => .of (bindP (.tp is) d e) h
  | .par i j a b, e, h => (ev tb Φ a e h).st e fun x h => (ev tb Φ b e h).st e fun y h => .nx ((e.set i (.val x)).set j (.val y)) h
  | .put i k v, e, h => (ev tb Φ v e h).st e fun y h => (ev tb Φ k e h).st e fun x h => (match e[i]? with
    | some (.own d) => .of ((setD d x y).map fun d => e.set i (.own d)) h
    | _ => .no)
  | .putS o k v, e, h => (ev tb Φ v e h).st e fun y h => (ev tb Φ o e h).st e fun r h => (ev tb Φ k e h).st e fun x h => (match r with
    | .ref n => (match (h[n]?).bind fun d => setD d x y with
      | some d => .nx e (h.set n d)
      | none => .no)
    | _ => .no)
  | .satt o f v, e, h => (ev tb Φ v e h).st e fun y h => (ev tb Φ o e h).st e fun r h => (match r with
    | .ref n => (match h[n]? with
      | some (.ins c fs) => if fs.length < 900 && tb.fld c f then .nx e (h.set n (.ins c (fput f y fs))) else .no
      | _ => .no)
    | _ => .no)
  | .aug i op a, e, h => (match e[i]? with
    | some (.val x) => (ev tb Φ a e h).st e fun y h => (match augD op x y with
      | some z => .nx (e.set i (.val z)) h
      | none => .no)
    | _ => .no)
  | .iff c a b, e, h => (evT tb Φ c e h).st e fun t h => if t then execs a e h else execs b e h
  | .whl c b, e, h => loopW (fun e h => evT tb Φ c e h) (fun e h => execs b e h) tb.N e h
  | .forr p it b, e, h => if ownIt e it then .no else (evI tb Φ it e h).st e fun ds h => loopF (fun d e h => (match bindP p d e with
    | some e => execs b e h
    | none => .no)) ds e h
  | .ret a, e, h => (ev tb Φ a e h).st e fun d h => .rt d h
  | .retn, _, h => .rt .non h
  | .brk, e, h => .bk e h
  | .cnt, e, h => .ct e h
  | .pass, e, h => .nx e h
  | .app i a, e, h => (ev tb Φ a e h).st e fun y h => (match e[i]? with
    | some (.own (.lst l)) => if l.length < lim then .nx (e.set i (.own (.lst (l ++ [y])))) h else .no
    | _ => .no)
  | .ext i a, e, h => (match e[i]? with
    | some (.own (.lst _)) => (ev tb Φ a e h).st e fun y h => (match e[i]?, y with
      | some (.own (.lst l)), .lst m => if l.length + m.length ≤ lim then .nx (e.set i (.own (.lst (l ++ m)))) h else .no
      | _, _ => .no)
    | _ => .no)
  | .pop j i, e, h => (match e[i]? with
    | some (.own (.lst l)) => (match l.getLast? with
      | some d => if i = j then .no else .nx ((e.set i (.own (.lst l.dropLast))).set j (.val d)) h
      | none => .no)
    | _ => .no)
  | .never, _, _ => .no
  | .wip is, e, h => .nx (wipeE e is) h
  | .retF a, e, h => (ev tb Φ a e h).st e fun d h => if freshD d then .rtF d h else .no
  | .retO i, e, h => (match e[i]? with
    | some (.own d) => if freshD d then .rtF d h else .no
    | _ => .no)
  | .sattN i f v, e, h => (ev tb Φ v e h).st e fun y h => (match e[i]? with
    | some (.val (.ref n)) => (match h[n]? with
      | some (.ins c fs) => if fs.length < 900 && tb.fld c f && freshD y then .nx e (h.set n (.ins c (fput f (.ref h.length) fs)) ++ [y]) else .no
      | _ => .no)
    | _ => .no)
  | .putO o k v, e, h => (ev tb Φ v e h).st e fun y h => (ev tb Φ o e h).st e fun r h => (ev tb Φ k e h).st e fun x h => (match view r h with
    | some (.ins c _) => (match tb.meth c "__setitem__" with
      | some f => (Φ f [r, x, y] h).st e fun z h => (match z with
        | .non => .nx e h
        | _ => .no)
      | none => .no)
    | _ => .no)
  | .clr i, e, h => (match e[i]? with
    | some (.own (.lst _)) => .nx (e.set i (.own (.lst []))) h
    | _ => .no)
  | .appR o a, e, h => (ev tb Φ o e h).st e fun x h => (match x with
    | .ref n => (match h[n]? with
      | some (.lst _) => (ev tb Φ a e h).st e fun y h => (match h[n]? with
        | some (.lst l) => if l.length < lim then .nx e (h.set n (.lst (l ++ [y]))) else .no
        | _ => .no)
      | _ => .no)
    | _ => .no)
  | .clrR o, e, h => (ev tb Φ o e h).st e fun x h => (match x with
    | .ref n => (match h[n]? with
      | some (.lst _) => .nx e (h.set n (.lst []))
      | _ => .no)
    | _ => .no)
  | .forR p m b, e, h => (ev tb Φ m e h).st e fun x h => (match (view x h).bind seqD with
    | some ds => loopR (fun h => (view x h).bind seqD) (fun d e h => (match bindP p d e with
      | some e => execs b e h
      | none => .no)) ds.length 0 e h
    | none => .no)
  | .upd i a, e, h => (ev tb Φ a e h).st e fun y h => (match e[i]?, y with
    | some (.own (.dct l)), .dct m => (match updD l m with
      | some l => .nx (e.set i (.own (.dct l))) h
      | none => .no)
    | _, _ => .no)
  | .frz i, e, h => (match e[i]? with
    | some (.own d) => if freshD d then .nx (e.set i (.val d)) h else .no
    | some (.val d) => .nx (e.set i (.val d)) h
    | _ => .no)
def execs : Ss → Ev → MH → O
  | .nil, e, h => .nx e h
  | .cons s l, e, h => (match exec s e h with
    | .nx e h => execs l e h
    | o => o)
end
end
/-! ### defs -/
structure Fd where
  /-- parameters, names in all -/
  np : Nat
  ns : Nat
  body : Ss
  /-- a method of the class that only goes on to the def -/
  sup : Option (Nat × Nat) := none
  /-- hands back a new list or dict that nothing else knows -/
  fr : Bool := false
def startE (ns : Nat) (ds : List D) : Ev := ds.map Slot.val ++ List.replicate (ns - ds.length) Slot.no
def runB (tb : Tb) (Φ : Nat → List D → MH → R D) (fd : Fd) (ds : List D) (h : MH) : R D := match execs tb Φ fd.body (startE fd.ns ds) h with
  | .nx _ h => if fd.fr then .no else .ok .non h
  | .rt d h => if fd.fr then .no else .ok d h
  | .rtF d h => if fd.fr then .ok d h else .no
  | .ex c fs _ h => .ex c fs h
  | _ => .no
def callN (tb : Tb) (F : Nat → Option Fd) : Nat → Nat → List D → MH → R D
  | 0, _, _, _ => .no
  | k + 1, f, ds, h => match F f with
    | some fd => if ds.length = fd.np then (match fd.sup with
      | none => runB tb (callN tb F k) fd ds h
      | some (c, g) => (match ds with
        | x :: r => (match view x h with
          | some (.ins c' _) => if c' = c then callN tb F k g (x :: r) h else .no
          | _ => .no)
        | [] => .no)) else .no
    | none => .no
end MP

set_option maxRecDepth 100000
set_option maxHeartbeats 1000000
/-! MP3: a scene of the small language stands for a state of the machine (Rel); operations on what stands for data. -/
namespace MP
open PySem PySem.Spec PyProof.Rows L2

/-- v holds the content d (it may be changed) -/
inductive VRep (C : RC) (ι : List Addr) (M : Addr → Prop) (H : Hp) : V → D → Prop
  | non : VRep C ι M H .non .non
  | bl (b : Bool) : VRep C ι M H (.bl b) (.bl b)
  | int (i : Int) : VRep C ι M H (.int i) (.int i)
  | str (x : Str) : VRep C ι M H (.str x) (.str x)
  | tup {a : Addr} {vs : List V} {ds : List D} : TupAt C M H a vs → Reps C ι M H vs ds → VRep C ι M H (.ref a) (.tup ds)
  | lst {a : Addr} {vs : List V} {ds : List D} : H a = some (.lst vs) → Reps C ι M H vs ds → VRep C ι M H (.ref a) (.lst ds)
  | scr {a : Addr} {vs : List V} {ds : List D} : SqL C.K H a vs → Reps C ι M H vs ds → VRep C ι M H (.ref a) (.scr ds)
  | dctK {a : Addr} {kvs : List (Key × V)} {ds : List (D × D)} : Rd H a (.dK kvs) → RepKs C ι M H kvs ds → VRep C ι M H (.ref a) (.dct ds)
  | dctT {a : Addr} {l : List (NestedKey × Addr × V)} {ds : List (D × D)} : Rd H a (.ext (dtPhi C.w a l)) → RepTs C ι M H l ds → VRep C ι M H (.ref a) (.dct ds)
  | dctG {a : Addr} {xs : List (Str × V)} {ds : List (D × D)} : KDct C a xs → RepGs C ι M H xs ds → VRep C ι M H (.ref a) (.dct ds)
  | ins {a : Addr} {c : Nat} {dx : Addr} {vfs : List (Str × V)} {fs : List (Str × D)} : H a = some (.ins (C.ca c) dx vfs) → RepFs C ι M H vfs fs → VRep C ι M H (.ref a) (.ins c fs)
/-- an object that may change holds d -/
inductive ContAt (C : RC) (ι : List Addr) (M : Addr → Prop) (H : Hp) (a : Addr) : D → Prop
  | lst {vs : List V} {ds : List D} : H a = some (.lst vs) → Reps C ι M H vs ds → ContAt C ι M H a (.lst ds)
  | dctK {kvs : List (Key × V)} {ds : List (D × D)} : H a = some (.dK kvs) → RepKs C ι M H kvs ds → ContAt C ι M H a (.dct ds)
  | dctT {l : List (NestedKey × Addr × V)} {ds : List (D × D)} : H a = some (.ext (dtPhi C.w a l)) → RepTs C ι M H l ds → ContAt C ι M H a (.dct ds)
  | ins {c : Nat} {dx : Addr} {vfs : List (Str × V)} {fs : List (Str × D)} : H a = some (.ins (C.ca c) dx vfs) → RepFs C ι M H vfs fs → ContAt C ι M H a (.ins c fs)

/-- what is fixed through a def's run: the abstract heap at its entry, what may change of its callers', the shared objects at its entry -/
structure SC where
  C : RC
  H0 : Hp
  M0 : Addr → Prop
  i0 : List Addr
def OwnAt (e : Ev) (σ : L2.St) (i : Nat) (a : Addr) : Prop := (∃ d, e[i]? = some (.own d)) ∧ σ[i]? = some (some (.ref a))
def Mu (M0 : Addr → Prop) (ι : List Addr) (e : Ev) (σ : L2.St) : Addr → Prop := fun a => M0 a ∨ a ∈ ι ∨ ∃ i, OwnAt e σ i a

structure Rel (S : SC) (ι : List Addr) (e : Ev) (h : MH) (σ : L2.St) (H : Hp) : Prop where
  len : e.length = σ.length
  val : ∀ (i : Nat) (d : D), e[i]? = some (.val d) → ∃ v, σ[i]? = some (some v) ∧ Rep S.C ι (Mu S.M0 ι e σ) H v d
  own : ∀ (i : Nat) (d : D), e[i]? = some (.own d) → ∃ a, σ[i]? = some (some (.ref a)) ∧ S.H0 a = none ∧ a ∉ ι ∧ ContAt S.C ι (Mu S.M0 ι e σ) H a d
  dist : ∀ (i j : Nat) (a : Addr), OwnAt e σ i a → OwnAt e σ j a → i = j
  hl : ι.length = h.length
  hd : ι.Nodup
  hp : ∀ (n : Nat) (d : D), h[n]? = some d → ∃ a, ι[n]? = some a ∧ ContAt S.C ι (Mu S.M0 ι e σ) H a d
  kept : ∀ b o, S.H0 b = some o → b ∉ S.i0 → H b = some o
  fresh : ∀ b, b ∈ ι → b ∈ S.i0 ∨ S.H0 b = none
  pre : ∀ (n : Nat) (a : Addr), S.i0[n]? = some a → ι[n]? = some a
  mz : ∀ a, S.M0 a → ∃ o, H a = some o

section
variable {C : RC} {ι ι' : List Addr} {M M' : Addr → Prop} {H H' : Hp}
theorem Rep.vw {v : V} {d : D} (r : Rep C ι M H v d) (n : ∀ k, d ≠ .ref k) : VRep C ι M H v d := by
  cases r with
  | non => exact .non
  | bl b => exact .bl b
  | int i => exact .int i
  | str x => exact .str x
  | tup h r => exact .tup h r
  | lst m h r => exact .lst h r
  | scr h r => exact .scr h.sq r
  | dctK m h r => exact .dctK (.inr ⟨_, h⟩) r
  | dctT m h r => exact .dctT (.inr ⟨_, h⟩) r
  | dctG h r => exact .dctG h r
  | ins m h r => exact .ins h r
  | ref h => exact absurd rfl (n _)
theorem ContAt.vw {a : Addr} {d : D} (r : ContAt C ι M H a d) : VRep C ι M H (.ref a) d := by
  cases r with
  | lst h r => exact .lst h r
  | dctK h r => exact .dctK (.inl h) r
  | dctT h r => exact .dctT (.inl h) r
  | ins h r => exact .ins h r
/-- the content, where it is not changed -/
theorem ContAt.go {a : Addr} {d : D} (r : ContAt C ι M H a d) (g : Go ι M H ι' M' H') (e : ∀ o, H a = some o → H' a = some o) : ContAt C ι' M' H' a d := by
  cases r with
  | lst h r => exact .lst (e _ h) (r.go g)
  | dctK h r => exact .dctK (e _ h) (r.go g)
  | dctT h r => exact .dctT (e _ h) (r.go g)
  | ins h r => exact .ins (e _ h) (r.go g)
theorem ContAt.some {a : Addr} {d : D} (r : ContAt C ι M H a d) : ∃ o, H a = some o := by
  cases r with
  | lst h r => exact ⟨_, h⟩
  | dctK h r => exact ⟨_, h⟩
  | dctT h r => exact ⟨_, h⟩
  | ins h r => exact ⟨_, h⟩
theorem Go.same {H H' : Hp} (s : Same H H') : Go ι M H ι M H' := ⟨fun _ _ h => h, fun a o h _ => s a o h, fun _ _ _ h => h, fun _ h => .inl h, fun a o h => ⟨o, s a o h⟩⟩
theorem Go.swap {M'' : Addr → Prop} (g : Go ι M H ι' M' H') (h : ∀ a, M'' a → M' a) : Go ι M H ι' M'' H' := ⟨g.pre, g.kept, fun a o e z => g.new a o e (h a z), g.nw, g.live⟩
end

section
variable {S : SC} {ι : List Addr} {e : Ev} {h : MH} {σ : L2.St} {H H' : Hp}
/-- new objects -/
theorem Rel.grow (R : Rel S ι e h σ H) (s : Same H H') : Rel S ι e h σ H' where
  len := R.len
  val := fun i d q => let ⟨v, h1, h2⟩ := R.val i d q; ⟨v, h1, h2.go (.same s)⟩
  own := fun i d q => let ⟨a, h1, h2, h3, h4⟩ := R.own i d q; ⟨a, h1, h2, h3, h4.go (.same s) fun o => s a o⟩
  dist := R.dist
  hl := R.hl
  hd := R.hd
  hp := fun n d q => let ⟨a, h1, h2⟩ := R.hp n d q; ⟨a, h1, h2.go (.same s) fun o => s a o⟩
  kept := fun b o h1 h2 => s b o (R.kept b o h1 h2)
  fresh := R.fresh
  pre := R.pre
  mz := fun a m => let ⟨o, q⟩ := R.mz a m; ⟨o, s a o q⟩
/-- what may change is there -/
theorem Rel.there (R : Rel S ι e h σ H) {a : Addr} (m : Mu S.M0 ι e σ a) : ∃ o, H a = some o := by
  rcases m with m | m | ⟨i, ⟨d, h1⟩, h2⟩
  · exact R.mz a m
  · obtain ⟨n, hn, rfl⟩ := List.mem_iff_getElem.mp m
    have hn' : n < h.length := by rw [← R.hl]; exact hn
    obtain ⟨b, h1, h2⟩ := R.hp n h[n] (List.getElem?_eq_getElem hn')
    rw [List.getElem?_eq_getElem hn] at h1
    cases h1
    exact h2.some
  · obtain ⟨b, h3, _, _, h4⟩ := R.own i d h1
    rw [h2] at h3
    cases h3
    exact h4.some
theorem Rel.not (R : Rel S ι e h σ H) {a : Addr} (n : H a = none) : ¬ Mu S.M0 ι e σ a := fun m => by
  obtain ⟨o, q⟩ := R.there m
  rw [n] at q
  cases q
theorem Rel.view (R : Rel S ι e h σ H) {v : V} {d c : D} (r : Rep S.C ι (Mu S.M0 ι e σ) H v d) (q : view d h = some c) : VRep S.C ι (Mu S.M0 ι e σ) H v c := by
  cases d with
  | ref n =>
    cases r with
    | ref hn =>
      obtain ⟨a, h1, h2⟩ := R.hp n c q
      rw [hn] at h1
      cases h1
      exact h2.vw
  | _ =>
    cases q
    exact r.vw fun k z => by cases z
/-- what an operand is -/
def ORep (S : SC) (ι : List Addr) (e : Ev) (σ : L2.St) (H : Hp) (v : V) : Od → Prop
  | .d d => Rep S.C ι (Mu S.M0 ι e σ) H v d
  | .own i => σ[i]? = some (some v)
theorem ORep.go {ι' : List Addr} {v : V} {x : Od} (r : ORep S ι e σ H v x) (g : Go ι (Mu S.M0 ι e σ) H ι' (Mu S.M0 ι' e σ) H') : ORep S ι' e σ H' v x := by
  cases x with
  | d d => exact Rep.go g r
  | own i => exact r
theorem Rel.vo (R : Rel S ι e h σ H) {v : V} {x : Od} {c : D} (r : ORep S ι e σ H v x) (q : vo e h x = some c) : VRep S.C ι (Mu S.M0 ι e σ) H v c := by
  cases x with
  | d d => exact R.view r q
  | own i =>
    have q' : (match e[i]? with
      | some (.own d) => some d
      | _ => none) = some c := q
    cases z : e[i]? with
    | none => rw [z] at q'; cases q'
    | some s =>
      rw [z] at q'
      cases s with
      | own d =>
        cases q'
        obtain ⟨a, h1, _, _, h2⟩ := R.own i c z
        have r' : σ[i]? = some (some v) := r
        rw [h1] at r'
        cases r'
        exact h2.vw
      | no => cases q'
      | val d => cases q'

/-- a result r of ev leads to what is wanted -/
def Out (S : SC) (e : Ev) (σ : L2.St) (r : R D) (ι : List Addr) (H : Hp) (Q : VK) : Prop :=
  ∃ d h', r = .ok d h' ∧ ∀ ι' H' v, Go ι (Mu S.M0 ι e σ) H ι' (Mu S.M0 ι' e σ) H' → Rel S ι' e h' σ H' → Rep S.C ι' (Mu S.M0 ι' e σ) H' v d → Q v H'
def OutO (S : SC) (e : Ev) (σ : L2.St) (r : R Od) (ι : List Addr) (H : Hp) (Q : V → Hp → Prop) : Prop :=
  ∃ x h', r = .ok x h' ∧ ∀ ι' H' v, Go ι (Mu S.M0 ι e σ) H ι' (Mu S.M0 ι' e σ) H' → Rel S ι' e h' σ H' → ORep S ι' e σ H' v x → Q v H'
def OutL (S : SC) (e : Ev) (σ : L2.St) (r : R (List D)) (ι : List Addr) (H : Hp) (Q : List V → Hp → Prop) : Prop :=
  ∃ ds h', r = .ok ds h' ∧ ∀ ι' H' vs, Go ι (Mu S.M0 ι e σ) H ι' (Mu S.M0 ι' e σ) H' → Rel S ι' e h' σ H' → Reps S.C ι' (Mu S.M0 ι' e σ) H' vs ds → Q vs H'
inductive OReps (S : SC) (ι : List Addr) (e : Ev) (σ : L2.St) (H : Hp) : List V → List Od → Prop
  | nil : OReps S ι e σ H [] []
  | cons {v : V} {vs : List V} {x : Od} {xs : List Od} : ORep S ι e σ H v x → OReps S ι e σ H vs xs → OReps S ι e σ H (v :: vs) (x :: xs)
def OutOs (S : SC) (e : Ev) (σ : L2.St) (r : R (List Od)) (ι : List Addr) (H : Hp) (Q : List V → Hp → Prop) : Prop :=
  ∃ ds h', r = .ok ds h' ∧ ∀ ι' H' vs, Go ι (Mu S.M0 ι e σ) H ι' (Mu S.M0 ι' e σ) H' → Rel S ι' e h' σ H' → OReps S ι' e σ H' vs ds → Q vs H'
/-- a result that needs nothing but its data: a Bool, an optional int -/
def OutP {α : Type} (S : SC) (e : Ev) (σ : L2.St) (r : R α) (ι : List Addr) (H : Hp) (Q : α → Hp → Prop) : Prop :=
  ∃ b h', r = .ok b h' ∧ ∀ ι' H', Go ι (Mu S.M0 ι e σ) H ι' (Mu S.M0 ι' e σ) H' → Rel S ι' e h' σ H' → Q b H'
theorem bind_ok {α β : Type} {x : R α} {f : α → MH → R β} {b : β} {h' : MH} (q : x.bind f = .ok b h') : ∃ a h1, x = .ok a h1 ∧ f a h1 = .ok b h' := by
  cases x with
  | ok a h1 => exact ⟨a, h1, rfl, q⟩
  | ex c fs h1 => cases q
  | no => cases q
theorem of_ok {α : Type} {o : Option α} {h h' : MH} {a : α} (q : R.of o h = .ok a h') : o = some a ∧ h' = h := by
  cases o with
  | none => cases q
  | some b => cases q; exact ⟨rfl, rfl⟩
end
variable (tb : Tb) (Φ : Nat → List D → MH → R D) (S : SC)
def tE (m : M) : TE := fun σ H Q => ∃ ι e h, Rel S ι e h σ H ∧ Out S e σ (ev tb Φ m e h) ι H Q
def tO (m : M) : TE := fun σ H Q => ∃ ι e h, Rel S ι e h σ H ∧ OutO S e σ (opd m (ev tb Φ m e h) e h) ι H Q
def tEs (l : Ms) : TA := fun σ H Q => ∃ ι e h, Rel S ι e h σ H ∧ OutL S e σ (evs tb Φ l e h) ι H Q
def tOs (l : Ms) : TA := fun σ H Q => ∃ ι e h, Rel S ι e h σ H ∧ OutOs S e σ (evOs tb Φ l e h) ι H Q
def tT (c : T) : TT := fun σ H Q => ∃ ι e h, Rel S ι e h σ H ∧ OutP S e σ (evT tb Φ c e h) ι H Q
end MP

set_option maxRecDepth 100000
set_option maxHeartbeats 1000000
/-! MP3b: new tuples, their object known. -/
namespace MP
open PySem PySem.Spec PyProof.Rows L2
section
variable {X : Cx} {pins : List (Addr × Obj)} {σ : L2.St} {H : Hp} {s : Shared}
/-- a new tuple's object -/
def TupO (o : Obj) : Prop := o.dict = none
theorem laidT {h' : Heap} {a : Addr} {o : Obj} {xs : List V} {us : List Value} {t' : Nat} (I : Inv X pins σ H s) (k : ∀ b u, s.heap.get? b = some u → h'.get? b = some u) (hp : s.heap.objs.size ≤ a) (r : Vals xs us) (z : xs.length ≤ sizeLine)
    (e : h'.get? a = some o) (hc : o.cls = .type "tuple") (hd : ∃ n, o.data = .seq us.toArray n) : Inv X pins σ (upd H a (.frz o (.tup xs))) { s with heap := h', toks := t' } :=
  I.laid k hp (show ObjOk X.prog X.w _ h' a (.frz o (.tup xs)) from ⟨e, z, us, r, ⟨o, e, hc, hd⟩⟩)
abbrev NewT (H : Hp) (xs : List V) (Q : VK) : Prop := ∀ p o, H p = none → TupO o → Q (.ref p) (upd H p (.frz o (.tup xs)))
theorem newT_of {xs : List V} {us : List Value} {Q : VK} (I : Inv X pins σ H s) (r : Vals xs us) (z : xs.length ≤ sizeLine) (q : NewT H xs Q) : EP X pins σ Q (.ref s.heap.objs.size) { s with heap := s.heap.push { cls := .type "tuple", data := .seq us.toArray } } :=
  ⟨.ref s.heap.objs.size, _, laidT (t' := s.toks) I (fun b u e => Heap.get?_push_of_some _ e) (Nat.le_refl _) r z (Heap.get?_push_size _ rfl) rfl ⟨_, rfl⟩, rfl, q _ _ (I.hok.fresh (Nat.le_refl _)) rfl⟩
theorem pe_tupN {es : List Expr} {t : TA} {pos : Pos} {x1 : Nat} (h : PA X es t) : PE X (.Tuple es x1 pos) (fun σ H Q => t σ H fun xs H1 => xs.length ≤ sizeLine ∧ NewT H1 xs Q) :=
  ⟨fun pins s σ H Q I hq => wpAny_Tuple_spliced (thn (h.run pos pins s σ H _ I hq) fun us s1 ⟨xs, H1, I1, r, z, q⟩ => ⟨by rw [← r.length]; exact z, newT_of I1 r z q⟩)⟩
def rCatN (K : PySem.W.Frag) : R2 := fun x y H Q => ∃ a b xs ys, x = .ref a ∧ y = .ref b ∧ SqT K H a xs ∧ SqT K H b ys ∧ xs.length + ys.length ≤ sizeLine ∧ xs ≠ [] ∧ ys ≠ [] ∧ NewT H (xs ++ ys) Q
theorem op_catN : OpR X (binaryOp .Add) (rCatN X.K) := by
  intro pins s σ H x y v u Q I rx ry ⟨a, b, xs, ys, ex, ey, ha, hb, hz, n1, n2, q⟩
  subst ex ey
  cases rx
  cases ry
  obtain ⟨its, r1, p1, _⟩ := I.tuple ha
  obtain ⟨its2, r2, p2, _⟩ := I.tuple hb
  refine HT.cat_tup p1 p2 (fun w => n1 (r1.nil_iff.mp w)) (fun w => absurd (r2.nil_iff.mp w) n2) (fun _ => ?_) (by rw [← r1.length, ← r2.length]; exact hz)
  exact newT_of I (r1.append r2) (by rw [List.length_append]; exact hz) q
def rSlN (K : PySem.W.Frag) : V → Option Int → Option Int → Hp → VK → Prop := fun x lo hi H Q => ∃ a xs, x = .ref a ∧ SqT K H a xs ∧ ((HT.sIx xs.length 0 lo = 0 ∧ HT.sIx xs.length xs.length hi = xs.length) → Q (.ref a) H) ∧
  (¬ (HT.sIx xs.length 0 lo = 0 ∧ HT.sIx xs.length xs.length hi = xs.length) → NewT H (cutV xs lo hi) Q)
theorem sl_tupN : SlR X (rSlN X.K) := by
  intro pins s σ H x v vl vu lo hi sl Q I rx hs pl pu ⟨a, xs, ex, hx, q1, q2⟩
  by_cases hw : HT.sIx xs.length 0 lo = 0 ∧ HT.sIx xs.length xs.length hi = xs.length
  · exact sl_tupA pins s σ H x v vl vu lo hi sl Q I rx hs pl pu ⟨a, xs, ex, hx, fun w => q1 w, fun w => absurd hw w⟩
  · subst ex
    cases rx
    obtain ⟨its, r, ht, hz⟩ := I.tuple hx
    have hlen : its.toArray.size = xs.length := by rw [List.size_toArray, ← r.length]
    refine ⟨"tuple", _, PyProof.Rows.slot_tuple_getitem.lookup, ht.typeIs, HT.getItem_tuple_cut ht hs pl pu (by rw [hlen]; exact hw) ?_ (by rw [hlen]; exact hz)⟩
    rw [hlen]
    have rr : Vals (cutV xs lo hi) _ := (r.drop (HT.sIx xs.length 0 lo)).take (HT.sIx xs.length xs.length hi - HT.sIx xs.length 0 lo)
    exact ⟨.ref s.heap.objs.size, _, laidT (t' := s.toks) I (fun b ob q => Heap.get?_push_of_some _ q) (Nat.le_refl _) rr (Nat.le_trans (cutV_length xs lo hi) hz) (Heap.get?_push_size _ rfl) rfl ⟨_, by simp; rfl⟩, rfl, q2 hw _ _ (I.hok.fresh (Nat.le_refl _)) rfl⟩
theorem call_tupleN : CallR X (.type "tuple") (fun xs H Q => ∃ p ys, xs = [.ref p] ∧ SqL X.K H p ys ∧ NewT H ys Q) := by
  intro pins s σ H xs us Q I r ⟨p, ys, ex, hq, q⟩
  subst ex
  obtain ⟨u, rfl, rx⟩ := vals1 r
  cases rx
  obtain ⟨its, r', pl, hz⟩ := I.list hq
  have hlen := r'.length
  refine call_tuple_list pl.isList (fun h' kp => ?_) (by simp only [List.size_toArray] <;> omega)
  have I1 : Inv X pins σ H { s with heap := h' } := I.kept (t' := s.toks) kp
  exact newT_of I1 r' hz q
end
end MP

set_option maxRecDepth 100000
set_option maxHeartbeats 1000000
/-! MP4: the operators by what their operands stand for. -/
namespace MP
open PySem PySem.Spec PyProof.Rows L2

abbrev cx (X : Cx) (ca : Nat → Addr) : RC := ⟨X.prog, X.w, X.K, ca⟩
def Known (M : Addr → Prop) (H : Hp) : Prop := ∀ a, M a → ∃ o, H a = some o
theorem Known.new {M : Addr → Prop} {H : Hp} (k : Known M H) {p : Addr} (n : H p = none) : ¬ M p := fun m => by
  obtain ⟨o, q⟩ := k p m
  rw [n] at q
  cases q
theorem same_laid {H : Hp} {p : Addr} {o : HO} (n : H p = none) : Same H (upd H p o) := fun b u q => by rw [upd_ne (ne_of_none q n)]; exact q
theorem lim_le {n : Nat} (h : n ≤ lim) : n ≤ sizeLine := Nat.le_trans h (by decide)
theorem opr_imp {X : Cx} {f : Value → Value → Sem Value} {r r' : R2} (h : OpR X f r) (i : ∀ x y H Q, r' x y H Q → r x y H Q) : OpR X f r' :=
  fun pins s σ H x y v u Q I rx ry q => h pins s σ H x y v u Q I rx ry (i x y H Q q)

section
variable {C : RC} {ι : List Addr} {M : Addr → Prop} {H : Hp}
theorem Rep.tupNew {p : Addr} {o : Obj} {vs : List V} {ds : List D} (k : Known M H) (n : H p = none) (ho : TupO o) (r : Reps C ι M H vs ds) : Rep C ι M (upd H p (.frz o (.tup vs))) (.ref p) (.tup ds) :=
  .tup (.inl ⟨k.new n, o, upd_same, ho⟩) (r.go (.laid n))
theorem Rep.lstNew {p : Addr} {vs : List V} {ds : List D} (k : Known M H) (n : H p = none) (r : Reps C ι M H vs ds) : Rep C ι M (upd H p (.lst vs)) (.ref p) (.lst ds) :=
  .lst (k.new n) upd_same (r.go (.same (same_laid n)))
theorem Same.rfl' {H : Hp} : Same H H := fun _ _ h => h
end

/-- a pure operation on two contents -/
def rBin (C : RC) (f : D → D → Option D) : R2 := fun x y H Q => ∃ ι M dx dy d, Known M H ∧ VRep C ι M H x dx ∧ VRep C ι M H y dy ∧ f dx dy = some d ∧
  ∀ H' v, Same H H' → Rep C ι M H' v d → Q v H'
def bopOf : Bop → Operator
  | .add => .Add | .sub => .Sub | .mul => .Mult | .fdiv => .FloorDiv | .mod => .Mod | .pow => .Pow | .band => .BitAnd
section
variable {X : Cx} {ca : Nat → Addr}
theorem bin_sub : OpR X (binaryOp .Sub) (rBin (cx X ca) (binD .sub)) := opr_imp op_sub fun x y H Q ⟨ι, M, dx, dy, d, k, h1, h2, e, q⟩ => by
  cases h1 <;> cases h2 <;> first
    | (simp [binD] at e; done)
    | (cases e; exact ⟨_, _, rfl, rfl, q _ _ Same.rfl' (.int _)⟩)
theorem bin_mul : OpR X (binaryOp .Mult) (rBin (cx X ca) (binD .mul)) := opr_imp op_mul fun x y H Q ⟨ι, M, dx, dy, d, k, h1, h2, e, q⟩ => by
  cases h1 <;> cases h2 <;> first
    | (simp [binD] at e; done)
    | (rename_i i j
       simp only [binD] at e
       split at e
       · rename_i hc
         cases e
         exact ⟨_, _, rfl, rfl, hc, q _ _ Same.rfl' (.int _)⟩
       · cases e)
theorem bin_fdiv : OpR X (binaryOp .FloorDiv) (rBin (cx X ca) (binD .fdiv)) := opr_imp op_fdiv fun x y H Q ⟨ι, M, dx, dy, d, k, h1, h2, e, q⟩ => by
  cases h1 <;> cases h2 <;> first
    | (simp [binD] at e; done)
    | (rename_i i j
       simp only [binD] at e
       split at e
       · rename_i hc
         cases e
         exact ⟨_, _, rfl, rfl, hc, q _ _ Same.rfl' (.int _)⟩
       · cases e)
theorem bin_mod : OpR X (binaryOp .Mod) (rBin (cx X ca) (binD .mod)) := opr_imp op_mod fun x y H Q ⟨ι, M, dx, dy, d, k, h1, h2, e, q⟩ => by
  cases h1 <;> cases h2 <;> first
    | (simp [binD] at e; done)
    | (rename_i i j
       simp only [binD] at e
       split at e
       · rename_i hc
         cases e
         exact ⟨_, _, rfl, rfl, hc, q _ _ Same.rfl' (.int _)⟩
       · cases e)
theorem bin_pow : OpR X (binaryOp .Pow) (rBin (cx X ca) (binD .pow)) := opr_imp op_pow fun x y H Q ⟨ι, M, dx, dy, d, k, h1, h2, e, q⟩ => by
  cases h1 <;> cases h2 <;> first
    | (simp [binD] at e; done)
    | (rename_i i j
       simp only [binD] at e
       split at e
       · rename_i hc
         cases e
         exact ⟨_, _, rfl, rfl, hc, q _ _ Same.rfl' (.int _)⟩
       · cases e)
theorem bin_band : OpR X (binaryOp .BitAnd) (rBin (cx X ca) (binD .band)) := opr_imp op_and fun x y H Q ⟨ι, M, dx, dy, d, k, h1, h2, e, q⟩ => by
  cases h1 <;> cases h2 <;> first
    | (simp [binD] at e; done)
    | (cases e; exact ⟨_, _, rfl, rfl, q _ _ Same.rfl' (.int _)⟩)
theorem bin_add : OpR X (binaryOp .Add) (rBin (cx X ca) (binD .add)) :=
  opr_imp (OpR.or op_add (OpR.or op_add_str (OpR.or (OpR.or op_catA op_catN) op_cat))) fun x y H Q ⟨ι, M, dx, dy, d, k, h1, h2, e, q⟩ => by
    cases h1 with
    | int i => cases h2 with
      | int j => cases e; exact .inl ⟨_, _, rfl, rfl, q _ _ Same.rfl' (.int _)⟩
      | _ => simp [binD] at e
    | str a => cases h2 with
      | str b =>
        simp only [binD] at e
        split at e
        · rename_i hc
          cases e
          exact .inr (.inl ⟨_, _, rfl, rfl, lim_le hc, q _ _ Same.rfl' (.str _)⟩)
        · cases e
      | _ => simp [binD] at e
    | @tup a vs ds ha ra => cases h2 with
      | @tup b us es hb rb =>
        simp only [binD] at e
        split at e
        · rename_i hc
          cases e
          have hz : vs.length + us.length ≤ sizeLine := by rw [ra.length, rb.length]; exact lim_le hc
          by_cases n1 : vs = []
          · refine .inr (.inr (.inl (.inl ⟨a, b, vs, us, rfl, rfl, ha.sq, hb.sq, hz, fun e1 => ?_, fun n1' e1 => absurd n1 n1', fun n1' n2 p hp => absurd n1 n1'⟩)))
            subst e1
            cases ra
            exact q _ _ Same.rfl' (.tup hb rb)
          by_cases n2 : us = []
          · refine .inr (.inr (.inl (.inl ⟨a, b, vs, us, rfl, rfl, ha.sq, hb.sq, hz, fun e1 => absurd e1 n1, fun _ e1 => ?_, fun _ n2' p hp => absurd n2 n2'⟩)))
            subst e1
            cases rb
            rw [List.append_nil] at q
            exact q _ _ Same.rfl' (.tup ha ra)
          exact .inr (.inr (.inl (.inr ⟨a, b, vs, us, rfl, rfl, ha.sq, hb.sq, hz, n1, n2, fun p o hp ho => q _ _ (same_laid hp) (.tupNew k hp ho (ra.append rb))⟩)))
        · cases e
      | _ => simp [binD] at e
    | @lst a vs ds ha ra => cases h2 with
      | @lst b us es hb rb =>
        simp only [binD] at e
        split at e
        · rename_i hc
          cases e
          have hz : vs.length + us.length ≤ sizeLine := by rw [ra.length, rb.length]; exact lim_le hc
          exact .inr (.inr (.inr ⟨a, b, vs, us, rfl, rfl, ha, hb, hz, fun p hp => q _ _ (same_laid hp) (.lstNew k hp (ra.append rb))⟩))
        · cases e
      | _ => simp [binD] at e
    | _ => cases h2 <;> simp [binD] at e
end
end MP

set_option maxRecDepth 100000
set_option maxHeartbeats 1000000
/-! MP5: comparisons. -/
namespace MP
open PySem PySem.Spec PyProof.Rows L2

mutual
def D.pd : D → PyData
  | .non => .none
  | .bl b => .bool b
  | .int i => .int i
  | .str x => .str x
  | .tup l => .tuple (pdL l)
  | .lst l => .list (pdL l)
  | _ => .none
def pdL : List D → List PyData
  | [] => []
  | d :: r => d.pd :: pdL r
end
mutual
theorem fitL_get : ∀ {l : List D} {k j : Nat} (h : fitL l k = true) (hj : j < l.length), fit l[j] k = true
  | d :: r, k, 0, h, hj => (Bool.and_eq_true_iff.mp (show (fit d k && fitL r k) = true from h)).1
  | d :: r, k, j + 1, h, hj => fitL_get (l := r) (Bool.and_eq_true_iff.mp (show (fit d k && fitL r k) = true from h)).2 (by simpa using hj)
theorem fit_lay : ∀ (d : D) (k : Nat), fit d k = true → d.pd.canLay0 = true ∧ d.pd.depth ≤ k
  | .non, _, _ => ⟨rfl, Nat.zero_le _⟩
  | .bl _, _, _ => ⟨rfl, Nat.zero_le _⟩
  | .int _, _, _ => ⟨rfl, Nat.zero_le _⟩
  | .str x, _, h => ⟨h, Nat.zero_le _⟩
  | .tup l, 0, h => by simp [fit] at h
  | .tup l, k + 1, h => by
    have h' : fitL l k = true := h
    obtain ⟨a, b⟩ := fitL_lay l k h'
    exact ⟨a, Nat.succ_le_succ b⟩
  | .lst l, 0, h => by simp [fit] at h
  | .lst l, k + 1, h => by
    have h' : fitL l k = true := h
    obtain ⟨a, b⟩ := fitL_lay l k h'
    exact ⟨a, Nat.succ_le_succ b⟩
  | .dct _, _, h => by simp [fit] at h
  | .ins _ _, _, h => by simp [fit] at h
  | .ref _, _, h => by simp [fit] at h
  | .scr _, _, h => by simp [fit] at h
theorem fitL_lay : ∀ (l : List D) (k : Nat), fitL l k = true → PyData.canLayAll0 (pdL l) = true ∧ PyData.depthAll (pdL l) ≤ k
  | [], _, _ => ⟨rfl, Nat.zero_le _⟩
  | d :: r, k, h => by
    have h' : (fit d k && fitL r k) = true := h
    obtain ⟨h1, h2⟩ := Bool.and_eq_true_iff.mp h'
    obtain ⟨a1, b1⟩ := fit_lay d k h1
    obtain ⟨a2, b2⟩ := fitL_lay r k h2
    refine ⟨?_, ?_⟩
    · show (d.pd.canLay0 && PyData.canLayAll0 (pdL r)) = true
      rw [a1, a2]; rfl
    · exact Nat.max_le.mpr ⟨b1, b2⟩
end
theorem fit_shaped {d : D} {k : Nat} (h : fit d k = true) (hk : k ≤ 64) : SeqAt.shaped d.pd = true := by
  obtain ⟨a, b⟩ := fit_lay d k h
  exact Bool.and_eq_true_iff.mpr ⟨a, decide_eq_true (Nat.le_trans b hk)⟩
mutual
theorem eqv_eqD : ∀ (x y : D) (k j : Nat), fit x k = true → fit y j = true → PyData.eqv x.pd y.pd = eqD x y
  | .non, y, _, _, _, h => by cases y <;> first | rfl | (simp [fit] at h; done)
  | .bl a, y, _, _, _, h => by
    cases y <;> first
      | rfl
      | (simp [fit] at h; done)
      | (simp only [D.pd, PyData.eqv, eqD]; cases a <;> simp [Bool.beq_eq_decide_eq])
  | .int i, y, _, _, _, h => by
    cases y <;> first
      | rfl
      | (simp [fit] at h; done)
      | (simp only [D.pd, PyData.eqv, eqD]; simp [Bool.beq_eq_decide_eq])
  | .str x, y, _, _, _, h => by
    cases y <;> first
      | rfl
      | (simp [fit] at h; done)
      | (simp only [D.pd, PyData.eqv, eqD]; simp [Bool.beq_eq_decide_eq])
  | .tup l, y, k, j, hx, h => by
    cases k with
    | zero => simp [fit] at hx
    | succ k =>
      have hx' : fitL l k = true := hx
      cases y <;> first
        | rfl
        | (simp [fit] at h; done)
        | skip
      rename_i m
      cases j with
      | zero => simp [fit] at h
      | succ j =>
        have h' : fitL m j = true := h
        exact eqv_eqDL l m k j hx' h'
  | .lst l, y, k, j, hx, h => by
    cases k with
    | zero => simp [fit] at hx
    | succ k =>
      have hx' : fitL l k = true := hx
      cases y <;> first
        | rfl
        | (simp [fit] at h; done)
        | skip
      rename_i m
      cases j with
      | zero => simp [fit] at h
      | succ j =>
        have h' : fitL m j = true := h
        exact eqv_eqDL l m k j hx' h'
  | .dct _, _, _, _, h, _ => by simp [fit] at h
  | .ins _ _, _, _, _, h, _ => by simp [fit] at h
  | .ref _, _, _, _, h, _ => by simp [fit] at h
  | .scr _, _, _, _, h, _ => by simp [fit] at h
theorem eqv_eqDL : ∀ (l m : List D) (k j : Nat), fitL l k = true → fitL m j = true → PyData.eqvAll (pdL l) (pdL m) = eqDL l m
  | [], m, _, _, _, _ => by cases m <;> rfl
  | x :: xs, m, k, j, hx, h => by
    cases m with
    | nil => rfl
    | cons y ys =>
      have hx' : (fit x k && fitL xs k) = true := hx
      have h' : (fit y j && fitL ys j) = true := h
      obtain ⟨h1, h2⟩ := Bool.and_eq_true_iff.mp hx'
      obtain ⟨h3, h4⟩ := Bool.and_eq_true_iff.mp h'
      show (PyData.eqv x.pd y.pd && PyData.eqvAll (pdL xs) (pdL ys)) = (eqD x y && eqDL xs ys)
      rw [eqv_eqD x y k j h1 h3, eqv_eqDL xs ys k j h2 h4]
end
theorem pdL_map : ∀ l : List D, pdL l = l.map D.pd
  | [] => rfl
  | d :: r => congrArg (d.pd :: ·) (pdL_map r)
section
variable {C : RC} {ι : List Addr} {M : Addr → Prop} {H : Hp}
mutual
theorem Rep.dp : ∀ {d : D} {v : V} {k : Nat}, Rep C ι M H v d → fit d k = true → Dp C.K H v d.pd
  | _, _, _, .non, _ => .non
  | _, _, _, .bl b, _ => .bl b
  | _, _, _, .int i, _ => .int i
  | _, _, _, .str x, _ => .str x
  | .tup ds, _, 0, .tup h r, f => by simp [fit] at f
  | .tup ds, _, k + 1, .tup h r, f => .tup h.sq (Reps.dp r (show fitL ds k = true from f))
  | .lst ds, _, 0, .lst m h r, f => by simp [fit] at f
  | .lst ds, _, k + 1, .lst m h r, f => .lst (SqL.of h) (Reps.dp r (show fitL ds k = true from f))
  | .scr ds, _, k, .scr h r, f => by simp [fit] at f
  | _, _, _, .dctK m h r, f => by simp [fit] at f
  | _, _, _, .dctT m h r, f => by simp [fit] at f
  | _, _, _, .dctG h r, f => by simp [fit] at f
  | _, _, _, .ins m h r, f => by simp [fit] at f
  | _, _, _, .ref h, f => by simp [fit] at f
theorem Reps.dp : ∀ {ds : List D} {vs : List V} {k : Nat}, Reps C ι M H vs ds → fitL ds k = true → DpAll C.K H vs (pdL ds)
  | _, _, _, .nil, _ => .nil
  | d :: ds, _, k, .cons h r, f => by
    have f' : (fit d k && fitL ds k) = true := f
    obtain ⟨h1, h2⟩ := Bool.and_eq_true_iff.mp f'
    exact .cons (Rep.dp h h1) (Reps.dp r h2)
end
theorem VRep.dp {d : D} {v : V} {k : Nat} (r : VRep C ι M H v d) (f : fit d k = true) : Dp C.K H v d.pd := by
  cases r with
  | non => exact .non
  | bl b => exact .bl b
  | int i => exact .int i
  | str x => exact .str x
  | tup h r => cases k with
    | zero => simp [fit] at f
    | succ k => exact .tup h.sq (r.dp (show fitL _ k = true from f))
  | lst h r => cases k with
    | zero => simp [fit] at f
    | succ k => exact .lst (SqL.of h) (r.dp (show fitL _ k = true from f))
  | scr h r => simp [fit] at f
  | dctK h r => simp [fit] at f
  | dctT h r => simp [fit] at f
  | dctG h r => simp [fit] at f
  | ins h r => simp [fit] at f
end

/-- a pure comparison of two contents -/
def rCmp (C : RC) (f : D → D → Option Bool) : R2 := fun x y H Q => ∃ ι M dx dy b, Known M H ∧ VRep C ι M H x dx ∧ VRep C ι M H y dy ∧ f dx dy = some b ∧ Q (.bl b) H
section
variable {X : Cx} {ca : Nat → Addr}
theorem eq_core {x y : V} {H : Hp} {ι : List Addr} {M : Addr → Prop} {dx dy : D} {b : Bool} (h1 : VRep (cx X ca) ι M H x dx) (h2 : VRep (cx X ca) ι M H y dy) (e : eqO dx dy = some b) :
    (scal x y = true ∧ b = decide (x = y)) ∨ (∃ d e, Dp X.K H x d ∧ Dp X.K H y e ∧ SeqAt.shaped d = true ∧ SeqAt.shaped e = true ∧ b = PyData.eqv d e) := by
  have gen : (if fit dx 60 && fit dy 60 then some (eqD dx dy) else none) = some b → (∃ d e, Dp X.K H x d ∧ Dp X.K H y e ∧ SeqAt.shaped d = true ∧ SeqAt.shaped e = true ∧ b = PyData.eqv d e) := fun e => by
    split at e
    · rename_i hc
      obtain ⟨f1, f2⟩ := Bool.and_eq_true_iff.mp hc
      cases e
      exact ⟨_, _, h1.dp f1, h2.dp f2, fit_shaped f1 (by decide), fit_shaped f2 (by decide), (eqv_eqD dx dy 60 60 f1 f2).symm⟩
    · cases e
  cases h1 with
  | str a => cases h2 with
    | str c =>
      cases e
      exact .inl ⟨rfl, by simp⟩
    | _ => exact .inr (gen e)
  | _ => exact .inr (gen e)
theorem cmp_eq (hu : X.A.units + 64 < cLine) : OpR X (compareOp .Eq) (rCmp (cx X ca) (cmpD .eq)) := opr_imp (OpR.or op_eq (op_eqD hu)) fun x y H Q ⟨ι, M, dx, dy, b, k, h1, h2, e, q⟩ => by
  rcases eq_core h1 h2 e with ⟨s, eb⟩ | ⟨d, e', a1, a2, a3, a4, eb⟩
  · exact .inl ⟨s, by rw [← eb]; exact q⟩
  · exact .inr ⟨d, e', a1, a2, a3, a4, by rw [← eb]; exact q⟩
theorem cmp_ne (hu : X.A.units + 64 < cLine) : OpR X (compareOp .NotEq) (rCmp (cx X ca) (cmpD .ne)) := opr_imp (OpR.or op_ne (op_neD hu)) fun x y H Q ⟨ι, M, dx, dy, b, k, h1, h2, e, q⟩ => by
  have e' : (eqO dx dy).map (!·) = some b := e
  obtain ⟨c, ec, eb⟩ := Option.map_eq_some_iff.mp e'
  subst eb
  rcases eq_core h1 h2 ec with ⟨s, eb⟩ | ⟨d, e', a1, a2, a3, a4, eb⟩
  · exact .inl ⟨s, by rw [← eb]; exact q⟩
  · exact .inr ⟨d, e', a1, a2, a3, a4, by rw [← eb]; exact q⟩
theorem cmp_lt : OpR X (compareOp .Lt) (rCmp (cx X ca) (cmpD .lt)) := opr_imp (OpR.or op_lt op_lt_str) fun x y H Q ⟨ι, M, dx, dy, b, k, h1, h2, e, q⟩ => by
  cases h1 <;> cases h2 <;> first | (simp [cmpD] at e; done) | (cases e; exact .inl ⟨_, _, rfl, rfl, q⟩) | (cases e; exact .inr ⟨_, _, rfl, rfl, q⟩)
theorem cmp_le : OpR X (compareOp .LtE) (rCmp (cx X ca) (cmpD .le)) := opr_imp op_le fun x y H Q ⟨ι, M, dx, dy, b, k, h1, h2, e, q⟩ => by
  cases h1 <;> cases h2 <;> first | (simp [cmpD] at e; done) | (cases e; exact ⟨_, _, rfl, rfl, q⟩)
theorem cmp_gt : OpR X (compareOp .Gt) (rCmp (cx X ca) (cmpD .gt)) := opr_imp (OpR.or op_gt op_gt_str) fun x y H Q ⟨ι, M, dx, dy, b, k, h1, h2, e, q⟩ => by
  cases h1 <;> cases h2 <;> first | (simp [cmpD] at e; done) | (cases e; exact .inl ⟨_, _, rfl, rfl, q⟩) | (cases e; exact .inr ⟨_, _, rfl, rfl, q⟩)
theorem cmp_ge : OpR X (compareOp .GtE) (rCmp (cx X ca) (cmpD .ge)) := opr_imp op_ge fun x y H Q ⟨ι, M, dx, dy, b, k, h1, h2, e, q⟩ => by
  cases h1 <;> cases h2 <;> first | (simp [cmpD] at e; done) | (cases e; exact ⟨_, _, rfl, rfl, q⟩)
theorem cmp_is : OpR X (compareOp .Is) (rCmp (cx X ca) (cmpD .isn)) := opr_imp op_isN fun x y H Q ⟨ι, M, dx, dy, b, k, h1, h2, e, q⟩ => by
  cases h1 <;> cases h2 <;> first | (simp [cmpD] at e; done) | (simp only [cmpD] at e; cases e; exact ⟨rfl, by simpa using q⟩)
theorem cmp_isnot : OpR X (compareOp .IsNot) (rCmp (cx X ca) (cmpD .notn)) := opr_imp op_notN fun x y H Q ⟨ι, M, dx, dy, b, k, h1, h2, e, q⟩ => by
  cases h1 <;> cases h2 <;> first | (simp [cmpD] at e; done) | (simp only [cmpD] at e; cases e; exact ⟨rfl, by simpa using q⟩)
end
end MP

set_option maxRecDepth 100000
set_option maxHeartbeats 1000000
/-! MP6: flat values, keys, dicts. -/
namespace MP
open PySem PySem.Spec PyProof.Rows L2

section
variable {C : RC} {ι : List Addr} {M : Addr → Prop} {H : Hp}
theorem Rep.flat {v : V} {d : D} (r : Rep C ι M H v d) (f : flatD d = true) : flatV v = true := by
  cases r <;> first | rfl | (simp [flatD] at f; done)
theorem VRep.flat {v : V} {d : D} (r : VRep C ι M H v d) (f : flatD d = true) : flatV v = true := by
  cases r <;> first | rfl | (simp [flatD] at f; done)
theorem Reps.flat : ∀ {ds : List D} {vs : List V}, Reps C ι M H vs ds → ds.all flatD = true → vs.all flatV = true
  | _, _, .nil, _ => rfl
  | _, _, .cons h r, f => by
    rw [List.all_cons, Bool.and_eq_true] at f
    rw [List.all_cons, h.flat f.1, r.flat f.2]; rfl
/-- a flat value is told by its data -/
theorem flat_val {v : V} {d : D} (r : Rep C ι M H v d) (f : flatD d = true) : VRep C ι M H v d := r.vw fun k z => by rw [z] at f; cases f
theorem eqV_eqD {v w : V} {d e : D} (r : VRep C ι M H v d) (s : VRep C ι M H w e) (f : flatD d = true) (g : flatD e = true) : eqV v w = eqD d e := by
  cases r <;> first
    | (simp [flatD] at f; done)
    | (cases s <;> first
        | (simp [flatD] at g; done)
        | rfl
        | (simp only [eqV, eqD, Bool.beq_eq_decide_eq])
        | (simp only [eqV, eqD]; simp))
theorem inV_eq {w : V} {e : D} (s : VRep C ι M H w e) (g : flatD e = true) : ∀ {ds : List D} {vs : List V}, Reps C ι M H vs ds → ds.all flatD = true → inV w vs = ds.any fun z => eqD z e
  | _, _, .nil, _ => rfl
  | _, _, .cons h r, f => by
    rw [List.all_cons, Bool.and_eq_true] at f
    show ((eqV _ w) || inV w _) = _
    rw [List.any_cons, inV_eq s g r f.2, eqV_eqD (flat_val h f.1) s f.1 g]
theorem any_pd {x : D} {k j : Nat} (fx : fit x j = true) : ∀ {l : List D}, fitL l k = true → ((pdL l).any fun z => PyData.eqv z x.pd) = l.any fun z => eqD z x
  | [], _ => rfl
  | d :: r, f => by
    obtain ⟨h1, h2⟩ := Bool.and_eq_true_iff.mp (show (fit d k && fitL r k) = true from f)
    show (PyData.eqv d.pd x.pd || _) = _
    rw [List.any_cons, eqv_eqD d x k j h1 fx, any_pd fx h2]
end

/-! ### keys -/
theorem eqD_kD (a b : Key) : eqD (kD a) (kD b) = decide (a = b) := by
  cases a <;> cases b <;> simp [kD, eqD]
theorem kk_kD (a : Key) : kk (kD a) = 0 := by cases a <;> rfl
mutual
theorem nk_nkD : ∀ k : NestedKey, (nkD k).nk = some k
  | .none => rfl
  | .num _ => rfl
  | .text _ => rfl
  | .tup l => by
    show (D.nkl (nkDl l)).map NestedKey.tup = _
    rw [nkl_nkDl l]; rfl
theorem nkl_nkDl : ∀ l : List NestedKey, D.nkl (nkDl l) = some l
  | [] => rfl
  | k :: r => by
    show (match (nkD k).nk, D.nkl (nkDl r) with | some k, some l => some (k :: l) | _, _ => none) = _
    rw [nk_nkD k, nkl_nkDl r]
end
mutual
theorem nkD_of : ∀ (d : D) (k : NestedKey), d.nk = some k → d = nkD k
  | .non, _, h => by cases h; rfl
  | .int _, _, h => by cases h; rfl
  | .str _, _, h => by cases h; rfl
  | .tup l, k, h => by
    have h' : (D.nkl l).map NestedKey.tup = some k := h
    obtain ⟨m, e, rfl⟩ := Option.map_eq_some_iff.mp h'
    rw [nkDl_of l m e]; rfl
  | .bl _, _, h => by cases h
  | .lst _, _, h => by cases h
  | .dct _, _, h => by cases h
  | .ins _ _, _, h => by cases h
  | .ref _, _, h => by cases h
  | .scr _, _, h => by cases h
theorem nkDl_of : ∀ (l : List D) (m : List NestedKey), D.nkl l = some m → l = nkDl m
  | [], _, h => by cases h; rfl
  | d :: r, m, h => by
    have h' : (match d.nk, D.nkl r with | some k, some l => some (k :: l) | _, _ => none) = some m := h
    cases e1 : d.nk with
    | none => rw [e1] at h'; cases h'
    | some k => cases e2 : D.nkl r with
      | none => rw [e1, e2] at h'; cases h'
      | some l =>
        rw [e1, e2] at h'
        cases h'
        rw [nkD_of d k e1, nkDl_of r l e2]; rfl
end
mutual
theorem eqD_nkD : ∀ a b : NestedKey, eqD (nkD a) (nkD b) = NestedKey.beq a b
  | .none, b => by cases b <;> rfl
  | .num _, b => by cases b <;> rfl
  | .text _, b => by cases b <;> rfl
  | .tup l, b => by
    cases b with
    | tup m => exact eqDL_nkDl l m
    | _ => rfl
theorem eqDL_nkDl : ∀ a b : List NestedKey, eqDL (nkDl a) (nkDl b) = NestedKey.beqAll a b
  | [], b => by cases b <;> rfl
  | x :: xs, b => by
    cases b with
    | nil => rfl
    | cons y ys =>
      show (eqD (nkD x) (nkD y) && eqDL (nkDl xs) (nkDl ys)) = (NestedKey.beq x y && NestedKey.beqAll xs ys)
      rw [eqD_nkD x y, eqDL_nkDl xs ys]
end
theorem eqD_nk (a b : NestedKey) : eqD (nkD a) (nkD b) = decide (a = b) := by rw [NestedKey.decide_eq]; exact eqD_nkD a b
theorem kk_tup {k : NestedKey} (t : TupKey k) : kk (nkD k) = 1 := by
  obtain ⟨⟨l, rfl⟩, h⟩ := t
  show (match D.nkl (nkDl l) with | some k => if (NestedKey.tup k).depth ≤ 8 then 1 else 2 | none => 2) = 1
  rw [nkl_nkDl]
  show (if (NestedKey.tup l).depth ≤ 8 then 1 else 2) = 1
  rw [if_pos h]
theorem of_kk1 {d : D} (z : kk d = 1) : ∃ k, d = nkD k ∧ TupKey k := by
  cases d with
  | tup l =>
    have z' : (match D.nkl l with | some k => if (NestedKey.tup k).depth ≤ 8 then 1 else 2 | none => 2) = 1 := z
    cases e : D.nkl l with
    | none => rw [e] at z'; cases z'
    | some m =>
      rw [e] at z'
      have z2 : (if (NestedKey.tup m).depth ≤ 8 then 1 else 2) = 1 := z'
      by_cases h : (NestedKey.tup m).depth ≤ 8
      · exact ⟨.tup m, by rw [nkDl_of l m e]; rfl, ⟨m, rfl⟩, h⟩
      · rw [if_neg h] at z2; cases z2
  | _ => cases z
theorem kk_lt (d : D) (z : kk d ≠ 2) : kk d = 0 ∨ kk d = 1 := by
  cases d with
  | tup l =>
    have e : kk (.tup l) = (match D.nkl l with | some k => if (NestedKey.tup k).depth ≤ 8 then 1 else 2 | none => 2) := rfl
    rw [e] at z ⊢
    cases q : D.nkl l with
    | none => rw [q] at z; exact absurd rfl z
    | some m =>
      rw [q] at z
      show (if (NestedKey.tup m).depth ≤ 8 then 1 else 2) = 0 ∨ (if (NestedKey.tup m).depth ≤ 8 then 1 else 2) = 1
      have z' : ¬ (if (NestedKey.tup m).depth ≤ 8 then 1 else 2) = 2 := z
      by_cases h : (NestedKey.tup m).depth ≤ 8
      · rw [if_pos h]; exact .inr rfl
      · rw [if_neg h] at z'; exact absurd rfl z'
  | int _ => exact .inl rfl
  | str _ => exact .inl rfl
  | _ => exact absurd rfl z
section
variable {C : RC} {ι : List Addr} {M : Addr → Prop} {H : Hp}
theorem key_of_kk {v : V} {d : D} (r : Rep C ι M H v d) (z : kk d = 0) : ∃ k : Key, d = kD k ∧ v = kV k := by
  cases r with
  | int i => exact ⟨.inl i, rfl, rfl⟩
  | str x => exact ⟨.inr x, rfl, rfl⟩
  | @tup a vs ds h r =>
    rcases kk_lt (.tup ds) (by rw [z]; decide) with q | q
    · obtain ⟨k, e, t⟩ : ∃ k, D.tup ds = nkD k ∧ TupKey k := by
        have e : kk (.tup ds) = (match D.nkl ds with | some k => if (NestedKey.tup k).depth ≤ 8 then 1 else 2 | none => 2) := rfl
        rw [e] at q
        cases q2 : D.nkl ds with
        | none => rw [q2] at q; cases q
        | some m =>
          rw [q2] at q
          have q3 : (if (NestedKey.tup m).depth ≤ 8 then 1 else 2) = 0 := q
          split at q3 <;> cases q3
      rw [e, kk_tup t] at z
      cases z
    · rw [z] at q; cases q
  | _ => cases z

/-! ### what a dict's entries stand for -/
theorem RepKs.get : ∀ {ds : List (D × D)} {kvs : List (Key × V)}, RepKs C ι M H kvs ds → ∀ (k : Key), (∀ d, dget ds (kD k) = some d → ∃ v, valV kvs k = some v ∧ Rep C ι M H v d) ∧ (dget ds (kD k) = none → valV kvs k = none)
  | _, _, .nil, k => ⟨fun d e => (by cases e), fun _ => rfl⟩
  | _, _, @RepKs.cons _ _ _ _ j v vs d ds h r, k => by
    have ih := RepKs.get r k
    have e0 : dget ((kD j, d) :: ds) (kD k) = if eqD (kD j) (kD k) = true then some d else dget ds (kD k) := by
      unfold dget
      rw [List.find?_cons]
      show Option.map (fun x : D × D => x.2) (match eqD (kD j) (kD k) with | true => some (kD j, d) | false => ds.find? fun p => eqD p.1 (kD k)) = _
      cases eqD (kD j) (kD k) <;> rfl
    rw [e0, eqD_kD]
    by_cases e : j = k
    · subst e
      rw [if_pos (decide_eq_true rfl), valV_pos rfl]
      exact ⟨fun d' q => (by cases q; exact ⟨v, rfl, h⟩), fun q => (by cases q)⟩
    · rw [if_neg (by rw [decide_eq_false e]; exact Bool.false_ne_true), valV_neg (by exact e)]
      exact ih
theorem RepKs.isSome {ds : List (D × D)} {kvs : List (Key × V)} (r : RepKs C ι M H kvs ds) (k : Key) : (valV kvs k).isSome = (dget ds (kD k)).isSome := by
  cases e : dget ds (kD k) with
  | none => rw [(r.get k).2 e]; rfl
  | some d => obtain ⟨v, h, _⟩ := (r.get k).1 d e; rw [h]; rfl
theorem RepKs.length : ∀ {ds : List (D × D)} {kvs : List (Key × V)}, RepKs C ι M H kvs ds → kvs.length = ds.length
  | _, _, .nil => rfl
  | _, _, .cons _ r => congrArg (· + 1) r.length
theorem RepTs.length : ∀ {ds : List (D × D)} {l : List (NestedKey × Addr × V)}, RepTs C ι M H l ds → l.length = ds.length
  | _, _, .nil => rfl
  | _, _, .cons _ _ _ r => congrArg (· + 1) r.length
/-- put, in a list of entries: in its place or at the end -/
theorem RepKs.put : ∀ {ds : List (D × D)} {kvs : List (Key × V)}, RepKs C ι M H kvs ds → ∀ (k : Key) {v : V} {d : D}, Rep C ι M H v d → (kvs.map (·.1)).Nodup → RepKs C ι M H (putK kvs k v) (dput ds (kD k) d)
  | _, _, .nil, k, v, d, h, _ => .cons h .nil
  | _, _, @RepKs.cons _ _ _ _ j u vs c ds h1 r, k, v, d, h, nd => by
    rw [List.map_cons, List.nodup_cons] at nd
    have e0 : dput ((kD j, c) :: ds) (kD k) d = if eqD (kD j) (kD k) = true then (kD j, d) :: ds else (kD j, c) :: dput ds (kD k) d := rfl
    rw [e0, eqD_kD]
    by_cases e : j = k
    · subst e
      rw [if_pos (decide_eq_true rfl)]
      have : putK ((j, u) :: vs) j v = (j, v) :: vs := by
        unfold putK
        rw [if_pos (by simp), List.map_cons, if_pos rfl]
        congr 1
        rw [List.map_congr_left (g := id)]
        · simp
        · intro p hp
          rw [if_neg]
          · rfl
          · intro q
            exact nd.1 (List.mem_map.mpr ⟨p, hp, q⟩)
      rw [this]
      exact .cons h r
    · rw [if_neg (by rw [decide_eq_false e]; exact Bool.false_ne_true)]
      have : putK ((j, u) :: vs) k v = (j, u) :: putK vs k v := by
        unfold putK
        rw [List.any_cons, decide_eq_false (show ¬ (j, u).1 = k from e), Bool.false_or]
        split
        · rw [List.map_cons, if_neg (show ¬ (j, u).1 = k from e)]
        · rfl
      rw [this]
      exact .cons h1 (RepKs.put r k h nd.2)
end
end MP

set_option maxRecDepth 100000
set_option maxHeartbeats 1000000
/-! MP7: dicts at the machine's level; in, not in, d[k], d.get. -/
namespace MP
open PySem PySem.Spec PyProof.Rows L2

def MixAt (P : Program) (w : World) (h : Heap) (a : Addr) (kvs : List (Key × V)) : Prop :=
  (a == sysModules) = false ∧ kvs.length ≤ sizeLine ∧ ∃ vs, KV kvs vs ∧ h.DictOf (mixKind P w) a vs
def SameT (p : NestedKey × Addr × V) (q : NestedKey × Addr × Value) : Prop := p.1 = q.1 ∧ p.2.1 = q.2.1 ∧ RelV p.2.2 q.2.2
def NstAt (P : Program) (w : World) (h : Heap) (a : Addr) (l : List (NestedKey × Addr × V)) : Prop :=
  (a == sysModules) = false ∧ l.length ≤ sizeLine ∧ ∃ xs, Paired SameT l xs ∧ h.DictOfH (nestedKind P w) a xs
def valT (l : List (NestedKey × Addr × V)) (k : NestedKey) : Option V := (l.find? fun x => decide (x.1 = k)).map (·.2.2)

section
variable {C : RC} {ι : List Addr} {M : Addr → Prop} {H : Hp}
theorem RepGs.ks : ∀ {ds : List (D × D)} {xs : List (Str × V)}, RepGs C ι M H xs ds → RepKs C ι M H (xs.map fun p => (Sum.inr p.1, p.2)) ds
  | _, _, .nil => .nil
  | _, _, .cons h r => .cons (k := .inr _) h r.ks
theorem RepTs.get : ∀ {ds : List (D × D)} {l : List (NestedKey × Addr × V)}, RepTs C ι M H l ds → ∀ (k : NestedKey), (∀ d, dget ds (nkD k) = some d → ∃ v, valT l k = some v ∧ Rep C ι M H v d) ∧ (dget ds (nkD k) = none → valT l k = none)
  | _, _, .nil, k => ⟨fun d e => (by cases e), fun _ => rfl⟩
  | _, _, @RepTs.cons _ _ _ _ j b v vs d ds _ _ h r, k => by
    have ih := RepTs.get r k
    have e0 : dget ((nkD j, d) :: ds) (nkD k) = if eqD (nkD j) (nkD k) = true then some d else dget ds (nkD k) := by
      unfold dget
      rw [List.find?_cons]
      show Option.map (fun x : D × D => x.2) (match eqD (nkD j) (nkD k) with | true => some (nkD j, d) | false => ds.find? fun p => eqD p.1 (nkD k)) = _
      cases eqD (nkD j) (nkD k) <;> rfl
    have e1 : valT ((j, b, v) :: vs) k = if j = k then some v else valT vs k := by
      unfold valT
      rw [List.find?_cons]
      show Option.map (fun x : NestedKey × Addr × V => x.2.2) (match decide (j = k) with | true => some (j, b, v) | false => vs.find? fun x => decide (x.1 = k)) = _
      by_cases e : j = k
      · rw [decide_eq_true e, if_pos e]; rfl
      · rw [decide_eq_false e, if_neg e]
    rw [e0, e1, eqD_nk]
    by_cases e : j = k
    · rw [if_pos (decide_eq_true e), if_pos e]
      exact ⟨fun d' q => (by cases q; exact ⟨v, rfl, h⟩), fun q => (by cases q)⟩
    · rw [if_neg (by rw [decide_eq_false e]; exact Bool.false_ne_true), if_neg e]
      exact ih
theorem RepTs.isSome {ds : List (D × D)} {l : List (NestedKey × Addr × V)} (r : RepTs C ι M H l ds) (k : NestedKey) : (valT l k).isSome = (dget ds (nkD k)).isSome := by
  cases e : dget ds (nkD k) with
  | none => rw [(r.get k).2 e]; rfl
  | some d => obtain ⟨v, h, _⟩ := (r.get k).1 d e; rw [h]; rfl
theorem SameT.val {k : NestedKey} : ∀ {l : List (NestedKey × Addr × V)} {xs : List (NestedKey × Addr × Value)}, Paired SameT l xs → RelO (valT l k) ((atKey xs k).map (·.2))
  | _, _, .nil => True.intro
  | (j, b, v) :: l, (j', b', u) :: xs, .cons h r => by
    obtain ⟨e1, e2, e3⟩ := h
    have ih := SameT.val (k := k) r
    have e1' : j = j' := e1
    subst e1'
    have q1 : valT ((j, b, v) :: l) k = if j = k then some v else valT l k := by
      unfold valT
      rw [List.find?_cons]
      show Option.map (fun x : NestedKey × Addr × V => x.2.2) (match decide (j = k) with | true => some (j, b, v) | false => l.find? fun x => decide (x.1 = k)) = _
      by_cases e : j = k
      · rw [decide_eq_true e, if_pos e]; rfl
      · rw [decide_eq_false e, if_neg e]
    have q2 : (atKey ((j, b', u) :: xs) k).map (·.2) = if j = k then some u else (atKey xs k).map (·.2) := by
      unfold atKey
      rw [List.find?_cons]
      by_cases e : j = k
      · rw [decide_eq_true e, if_pos e]; rfl
      · rw [decide_eq_false e, if_neg e]
    rw [q1, q2]
    by_cases e : j = k
    · rw [if_pos e, if_pos e]; exact e3
    · rw [if_neg e, if_neg e]; exact ih
end

section
variable {X : Cx} {ca : Nat → Addr} {pins : List (Addr × Obj)} {σ : L2.St} {s : Shared} {ι : List Addr} {M : Addr → Prop} {H : Hp}
mutual
theorem nested_is (I : Inv X pins σ H s) : ∀ (k : NestedKey) (v : V) (u : Value), Rep (cx X ca) ι M H v (nkD k) → RelV v u → NestedIs s.heap k u
  | .none, v, u, r, q => by cases r; cases q; exact .none
  | .num i, v, u, r, q => by cases r; obtain ⟨t, rfl⟩ := q; exact .int i t
  | .text x, v, u, r, q => by cases r; obtain ⟨t, rfl⟩ := q; exact .text x t
  | .tup l, v, u, r, q => by
    have r' : Rep (cx X ca) ι M H v (.tup (nkDl l)) := r
    cases r' with
    | tup h rs =>
      cases q
      obtain ⟨its, rv, ⟨o, h1, h2, n, h3⟩, _⟩ := I.tuple h.sq
      exact .tup h1 h2 h3 (by simpa using nested_all I l _ its rs rv)
theorem nested_all (I : Inv X pins σ H s) : ∀ (l : List NestedKey) (vs : List V) (us : List Value), Reps (cx X ca) ι M H vs (nkDl l) → Vals vs us → NestedAll s.heap l us
  | [], vs, us, r, q => by
    have r' : Reps (cx X ca) ι M H vs [] := r
    cases r'; cases q; exact .nil
  | k :: l, vs, us, r, q => by
    have r' : Reps (cx X ca) ι M H vs (nkD k :: nkDl l) := r
    cases r' with
    | cons r1 r2 => cases q with
      | cons q1 q2 => exact .cons (nested_is I k _ _ r1 q1) (nested_all I l _ _ r2 q2)
end

theorem dct_at {a : Addr} {ds : List (D × D)} (I : Inv X pins σ H s) (r : VRep (cx X ca) ι M H (.ref a) (.dct ds)) :
    (∃ kvs, MixAt X.prog X.w s.heap a kvs ∧ RepKs (cx X ca) ι M H kvs ds) ∨ (∃ l, NstAt X.prog X.w s.heap a l ∧ RepTs (cx X ca) ι M H l ds) := by
  cases r with
  | dctK h r =>
    obtain ⟨z, hd, vs, rel, dd⟩ := dk_rd I.hok h
    exact .inl ⟨_, ⟨hd, z, vs, rel, dd⟩, r⟩
  | @dctT _ l _ h r =>
    obtain ⟨⟨z, hd, nd, o, es, ep, h1, h2, h3, pr⟩, _, _⟩ := h.ok I.hok
    refine .inr ⟨l, ⟨hd, z, ?_⟩, r⟩
    -- the entries as the library has them
    have mk : ∀ {l : List (NestedKey × Addr × V)} {es : List DictEntry} {ds : List (D × D)}, Paired (fun (p : NestedKey × Addr × V) (e : DictEntry) => e.hash = p.1.hash X.w ∧ e.key = .ref p.2.1 ∧ RelV p.2.2 e.val) l es → RepTs (cx X ca) ι M H l ds →
        ∃ xs : List (NestedKey × Addr × Value), Paired SameT l xs ∧ es = xs.map (entryOfKey (nestedKind X.prog X.w)) ∧ (∀ x ∈ xs, (nestedKind X.prog X.w).is s.heap x.1 x.2.1) ∧ xs.map (·.1) = l.map (·.1) := by
      intro l es ds pr rt
      induction pr generalizing ds with
      | nil => exact ⟨[], .nil, rfl, fun x hx => (nomatch hx), rfl⟩
      | @cons p e ps es hp t ih =>
        cases rt with
        | cons tk rb rv rt =>
          obtain ⟨xs, g1, g2, g3, g4⟩ := ih rt
          obtain ⟨k1, k2, k3⟩ := hp
          refine ⟨(_, _, e.val) :: xs, .cons ⟨rfl, rfl, k3⟩ g1, ?_, ?_, ?_⟩
          · rw [List.map_cons, ← g2]
            congr 1
            obtain ⟨eh, ek, ev⟩ := e
            simp only at k1 k2
            subst k1 k2
            rfl
          · intro x hx
            rcases List.mem_cons.mp hx with q | hx
            · subst q
              exact ⟨nested_is I _ _ _ rb rfl, tk.2⟩
            · exact g3 x hx
          · rw [List.map_cons, List.map_cons, g4]
    obtain ⟨xs, g1, g2, g3, g4⟩ := mk pr r
    exact ⟨xs, g1, o, es, ep, h1, h2, h3, g2, g3, by rw [g4]; exact nd⟩
  | @dctG _ xs _ h r =>
    obtain ⟨es, n, hl, hd, hz, nd, pr⟩ := h
    refine .inl ⟨_, ⟨hd, by rw [List.length_map]; exact hz, ?_⟩, r.ks⟩
    have mk : ∀ {xs : List (Str × V)} {es : List DictEntry}, Paired (fun (p : Str × V) (e : DictEntry) => (∃ t, e.key = .str p.1 t) ∧ e.hash = hashStr X.w p.1 ∧ RelV p.2 e.val) xs es →
        ∃ vs : List (Key × Value), KV (xs.map fun p => ((Sum.inr p.1 : Key), p.2)) vs ∧ Pairs (mixKind X.prog X.w) es vs ∧ (∀ e ∈ es, ∃ k, (mixKind X.prog X.w).is k e.key = true ∧ e.hash = (mixKind X.prog X.w).hash k) ∧ vs.map (·.1) = xs.map fun p => (Sum.inr p.1 : Key) := by
      intro xs es pr
      induction pr with
      | nil => exact ⟨[], .nil, .nil, fun e he => (nomatch he), rfl⟩
      | @cons p e ps es hp t ih =>
        obtain ⟨vs, g1, g2, g3, g4⟩ := ih
        obtain ⟨⟨tk, k1⟩, k2, k3⟩ := hp
        refine ⟨(.inr p.1, e.val) :: vs, .cons ⟨rfl, k3⟩ g1, .cons (by rw [k1]; exact mixKind_str _ _ _ _) rfl g2, ?_, by rw [List.map_cons, List.map_cons, g4]⟩
        intro e' he'
        rcases List.mem_cons.mp he' with q | he'
        · subst q
          exact ⟨.inr p.1, by rw [k1]; exact mixKind_str _ _ _ _, k2⟩
        · exact g3 e' he'
    obtain ⟨vs, g1, g2, g3, g4⟩ := mk pr
    refine ⟨vs, g1, _, es, n, I.kIn _ _ hl, ⟨rfl, rfl, rfl⟩, rfl, fun e he => g3 e (Array.mem_toList_iff.mpr he), g2, ?_⟩
    rw [g4]
    have inj : ∀ l : List Str, l.Nodup → (l.map fun x => (Sum.inr x : Key)).Nodup := by
      intro l
      induction l with
      | nil => intro _; exact List.nodup_nil
      | cons x r ih =>
        intro h
        rw [List.nodup_cons] at h
        rw [List.map_cons, List.nodup_cons]
        refine ⟨fun q => ?_, ih h.2⟩
        obtain ⟨y, hy, ey⟩ := List.mem_map.mp q
        cases ey
        exact h.1 hy
    have := inj _ nd
    rw [List.map_map] at this
    exact this
/-- an empty dict is of both kinds -/
theorem MixAt.nst {a : Addr} (m : MixAt X.prog X.w s.heap a []) : NstAt X.prog X.w s.heap a [] := by
  obtain ⟨hd, z, vs, rel, o, es, ep, h1, h2, h3, h4, h5, h6⟩ := m
  cases rel
  refine ⟨hd, z, [], .nil, o, es, ep, h1, h2, h3, ?_, fun x hx => (nomatch hx), List.nodup_nil⟩
  cases es with
  | mk l => cases h5; rfl
theorem NstAt.mix {a : Addr} (m : NstAt X.prog X.w s.heap a []) : MixAt X.prog X.w s.heap a [] := by
  obtain ⟨hd, z, xs, rel, o, es, ep, h1, h2, h3, h4, h5, h6⟩ := m
  cases rel
  have e : es = #[] := by
    cases es with
    | mk l => rw [List.map_nil] at h4; simp at h4; rw [h4]
  subst e
  exact ⟨hd, z, [], .nil, o, #[], ep, h1, h2, h3, fun e he => absurd he (by simp), .nil, List.nodup_nil⟩
/-- the dict and the key, of one kind -/
theorem dct_key {a : Addr} {ds : List (D × D)} {x : V} {dx : D} {u : Value} (I : Inv X pins σ H s) (r : VRep (cx X ca) ι M H (.ref a) (.dct ds)) (rx : Rep (cx X ca) ι M H x dx) (ru : RelV x u) (f : kfit ds dx = true) :
    (∃ k kvs, dx = kD k ∧ x = kV k ∧ MixAt X.prog X.w s.heap a kvs ∧ RepKs (cx X ca) ι M H kvs ds) ∨
    (∃ k b l, dx = nkD k ∧ TupKey k ∧ x = .ref b ∧ u = .ref b ∧ (nestedKind X.prog X.w).is s.heap k b ∧ NstAt X.prog X.w s.heap a l ∧ RepTs (cx X ca) ι M H l ds) := by
  have two : kk dx ≠ 2 := by
    cases ds with
    | nil =>
      have f' : (kk dx != 2) = true := f
      exact fun q => by rw [q] at f'; cases f'
    | cons p r =>
      obtain ⟨c, d⟩ := p
      have f' : (kk dx != 2 && kk c == kk dx) = true := f
      rw [Bool.and_eq_true] at f'
      exact fun q => by rw [q] at f'; cases f'.1
  have tupc : kk dx = 1 → ∃ k b, dx = nkD k ∧ TupKey k ∧ x = .ref b ∧ u = .ref b ∧ (nestedKind X.prog X.w).is s.heap k b := fun z => by
    obtain ⟨k, e, t⟩ := of_kk1 z
    subst e
    obtain ⟨⟨l, el⟩, hd⟩ := t
    subst el
    have rx' : Rep (cx X ca) ι M H x (.tup (nkDl l)) := rx
    cases rx' with
    | @tup b vs ds h rs =>
      cases ru
      exact ⟨.tup l, b, rfl, ⟨⟨l, rfl⟩, hd⟩, rfl, rfl, nested_is I _ _ _ rx rfl, hd⟩
  rcases dct_at I r with ⟨kvs, m, rk⟩ | ⟨l, m, rt⟩
  · cases rk with
    | nil =>
      rcases kk_lt dx two with z | z
      · obtain ⟨k, e1, e2⟩ := key_of_kk rx z
        exact .inl ⟨k, [], e1, e2, m, .nil⟩
      · obtain ⟨k, b, h1, h2, h3, h4, h5⟩ := tupc z
        exact .inr ⟨k, b, [], h1, h2, h3, h4, h5, m.nst, .nil⟩
    | @cons j v vs d ds h rk =>
      have f' : (kk dx != 2 && kk (kD j) == kk dx) = true := f
      rw [Bool.and_eq_true, kk_kD] at f'
      obtain ⟨k, e1, e2⟩ := key_of_kk rx (beq_iff_eq.mp f'.2).symm
      exact .inl ⟨k, _, e1, e2, m, .cons h rk⟩
  · cases rt with
    | nil =>
      rcases kk_lt dx two with z | z
      · obtain ⟨k, e1, e2⟩ := key_of_kk rx z
        exact .inl ⟨k, [], e1, e2, m.mix, .nil⟩
      · obtain ⟨k, b, h1, h2, h3, h4, h5⟩ := tupc z
        exact .inr ⟨k, b, [], h1, h2, h3, h4, h5, m, .nil⟩
    | @cons j b v vs d ds t hb h rt =>
      have f' : (kk dx != 2 && kk (nkD j) == kk dx) = true := f
      rw [Bool.and_eq_true, kk_tup t] at f'
      obtain ⟨k, b', h1, h2, h3, h4, h5⟩ := tupc (beq_iff_eq.mp f'.2).symm
      exact .inr ⟨k, b', _, h1, h2, h3, h4, h5, m, .cons t hb h rt⟩

theorem room_nest {A : Around} (hu : A.units + 10 < cLine) : (nestedKind X.prog X.w).room A.in1 := by
  show A.in1.units + 8 < cLine
  rw [Around.in1_units]; omega
/-- x in d -/
theorem in_dct {a : Addr} {ds : List (D × D)} {x : V} {dx : D} {u : Value} {A : Around} {E : Value → Shared → Prop} {Q : Value → Shared → Prop} (hu : A.units + 10 < cLine) (I : Inv X pins σ H s) (r : VRep (cx X ca) ι M H (.ref a) (.dct ds)) (rx : Rep (cx X ca) ι M H x dx)
    (ru : RelV x u) (f : kfit ds dx = true) (h : ∀ t, Q (.bool (dget ds dx).isSome) { s with toks := t }) : wpAny (model X.prog X.w) A (compareOp .In u (.ref a)) Q E s := by
  rcases dct_key I r rx ru f with ⟨k, kvs, rfl, rfl, ⟨hd, z, vs, rel, dd⟩, rk⟩ | ⟨k, b, l, rfl, t, rfl, rfl, hk, ⟨hd, z, xs, rel, dd⟩, rt⟩
  · refine wpAny_in_of (kV_is ru) hd dd.mapOf ?_
    rw [← (rel.val k).isSome_eq, rk.isSome k]
    exact h _
  · refine wpAny_in_heap (room_nest hu) hk hd dd ?_
    have q := (SameT.val (k := k) rel).isSome_eq
    rw [Option.isSome_map] at q
    rw [← q, rt.isSome k]
    exact h _
theorem notin_dct {a : Addr} {ds : List (D × D)} {x : V} {dx : D} {u : Value} {A : Around} {E : Value → Shared → Prop} {Q : Value → Shared → Prop} (hu : A.units + 10 < cLine) (I : Inv X pins σ H s) (r : VRep (cx X ca) ι M H (.ref a) (.dct ds)) (rx : Rep (cx X ca) ι M H x dx)
    (ru : RelV x u) (f : kfit ds dx = true) (h : ∀ t, Q (.bool (!(dget ds dx).isSome)) { s with toks := t }) : wpAny (model X.prog X.w) A (compareOp .NotIn u (.ref a)) Q E s := by
  rcases dct_key I r rx ru f with ⟨k, kvs, rfl, rfl, ⟨hd, z, vs, rel, dd⟩, rk⟩ | ⟨k, b, l, rfl, t, rfl, rfl, hk, ⟨hd, z, xs, rel, dd⟩, rt⟩
  · refine wpAny_notIn_of (kV_is ru) hd dd.mapOf ?_
    rw [← (rel.val k).isSome_eq, rk.isSome k]
    exact h _
  · refine wpAny_notIn_heap (room_nest hu) hk hd dd ?_
    have q := (SameT.val (k := k) rel).isSome_eq
    rw [Option.isSome_map] at q
    rw [← q, rt.isSome k]
    exact h _
/-- d[x] -/
theorem item_dct {a : Addr} {ds : List (D × D)} {x : V} {dx d : D} {u : Value} {A : Around} {E : Value → Shared → Prop} {Q : Value → Shared → Prop} (hu : A.units + 10 < cLine) (I : Inv X pins σ H s) (r : VRep (cx X ca) ι M H (.ref a) (.dct ds)) (rx : Rep (cx X ca) ι M H x dx)
    (ru : RelV x u) (f : kfit ds dx = true) (e : dget ds dx = some d) (h : ∀ v w' t, Rep (cx X ca) ι M H v d → RelV v w' → Q w' { s with toks := t }) : wpAny (model X.prog X.w) A (getItem (.ref a) u) Q E s := by
  rcases dct_key I r rx ru f with ⟨k, kvs, rfl, rfl, ⟨hd, z, vs, rel, dd⟩, rk⟩ | ⟨k, b, l, rfl, t, rfl, rfl, hk, ⟨hd, z, xs, rel, dd⟩, rt⟩
  · obtain ⟨v, hv, rv⟩ := (rk.get k).1 d e
    obtain ⟨w', hw, rw'⟩ := RelO.some_of (v := v) (o := valueAt vs k) (by rw [← hv]; exact rel.val k)
    exact wpAny_getItem_of (kV_is ru) dd.mapOf hw (h v w' _ rv rw')
  · obtain ⟨v, hv, rv⟩ := (rt.get k).1 d e
    obtain ⟨w', hw, rw'⟩ := RelO.some_of (v := v) (o := (atKey xs k).map (·.2)) (by rw [← hv]; exact SameT.val rel)
    obtain ⟨p, hp, hp2⟩ := Option.map_eq_some_iff.mp hw
    refine wpAny_getItem_heap (room_nest hu) hk dd hp ?_
    rw [hp2]
    exact h v w' _ rv rw'
theorem dct_type {a : Addr} {ds : List (D × D)} (I : Inv X pins σ H s) (r : VRep (cx X ca) ι M H (.ref a) (.dct ds)) : s.TypeIs (.ref a) "dict" ∧ ∃ ob, s.heap.get? a = some ob ∧ ob.dict = none := by
  rcases dct_at I r with ⟨kvs, ⟨hd, z, vs, rel, dd⟩, rk⟩ | ⟨l, ⟨hd, z, xs, rel, dd⟩, rt⟩
  · obtain ⟨o, es, ep, h1, h2, _⟩ := dd
    exact ⟨⟨o, h1, h2.1⟩, o, h1, h2.2.1⟩
  · obtain ⟨o, es, ep, h1, h2, _⟩ := dd
    exact ⟨⟨o, h1, h2.1⟩, o, h1, h2.2.1⟩

/-! ### a dict's entries -/
inductive Ents (C : RC) (ι : List Addr) (M : Addr → Prop) (H : Hp) : List DictEntry → List (D × D) → Prop
  | nil : Ents C ι M H [] []
  | cons {en : DictEntry} {es : List DictEntry} {vk vv : V} {k d : D} {ds : List (D × D)} : RelV vk en.key → Rep C ι M H vk k → RelV vv en.val → Rep C ι M H vv d → Ents C ι M H es ds → Ents C ι M H (en :: es) ((k, d) :: ds)
theorem Ents.length {C : RC} {ι : List Addr} {M : Addr → Prop} {H : Hp} : ∀ {es : List DictEntry} {ds : List (D × D)}, Ents C ι M H es ds → es.length = ds.length
  | _, _, .nil => rfl
  | _, _, .cons _ _ _ _ r => congrArg (· + 1) r.length
theorem Ents.keys {C : RC} {ι : List Addr} {M : Addr → Prop} {H : Hp} : ∀ {es : List DictEntry} {ds : List (D × D)}, Ents C ι M H es ds → ∃ vs, Vals vs (es.map (·.key)) ∧ Reps C ι M H vs (ds.map (·.1))
  | _, _, .nil => ⟨[], .nil, .nil⟩
  | _, _, .cons r1 r2 _ _ r => let ⟨vs, h1, h2⟩ := r.keys; ⟨_ :: vs, .cons r1 h1, .cons r2 h2⟩
theorem Ents.get {C : RC} {ι : List Addr} {M : Addr → Prop} {H : Hp} : ∀ {es : List DictEntry} {ds : List (D × D)}, Ents C ι M H es ds → ∀ {i : Nat} {k d : D}, ds[i]? = some (k, d) → ∃ en vk, es[i]? = some en ∧ RelV vk en.key ∧ Rep C ι M H vk k
  | _, _, .nil, _, _, _, e => by simp at e
  | _, _, .cons r1 r2 _ _ _, 0, _, _, e => by simp at e; obtain ⟨rfl, rfl⟩ := e; exact ⟨_, _, rfl, r1, r2⟩
  | _, _, .cons _ _ _ _ r, i + 1, k, d, e => by
    obtain ⟨en, vk, h1, h2, h3⟩ := r.get (i := i) (k := k) (d := d) (by simpa using e)
    exact ⟨en, vk, by simpa using h1, h2, h3⟩
theorem ents_K {C : RC} {P : Program} {w : World} {ι : List Addr} {M : Addr → Prop} {H : Hp} : ∀ {ds : List (D × D)} {kvs : List (Key × V)} {vs : List (Key × Value)} {es : List DictEntry}, RepKs C ι M H kvs ds → KV kvs vs → Pairs (mixKind P w) es vs → Ents C ι M H es ds
  | _, _, _, _, .nil, .nil, .nil => .nil
  | _, _, _, _, @RepKs.cons _ _ _ _ k v _ d _ h r, .cons (b := q) e1 e2, .cons p1 p2 p3 => by
    obtain ⟨k', u⟩ := q
    obtain ⟨q1, q2⟩ := e1
    have q1 : k = k' := q1
    subst q1
    refine .cons (vk := kV k) (relV_key p1) ?_ ?_ h (ents_K r e2 p3)
    · cases k with
      | inl i => exact .int i
      | inr x => exact .str x
    · rw [p2]; exact q2
theorem ents_T {C : RC} {P : Program} {w : World} {ι : List Addr} {M : Addr → Prop} {H : Hp} : ∀ {ds : List (D × D)} {l : List (NestedKey × Addr × V)} {xs : List (NestedKey × Addr × Value)}, RepTs C ι M H l ds → Paired SameT l xs → Ents C ι M H (xs.map (entryOfKey (nestedKind P w))) ds
  | _, _, _, .nil, .nil => .nil
  | _, _, _, @RepTs.cons _ _ _ _ k b v _ d _ t h0 h r, .cons (b := q) e1 e2 => by
    obtain ⟨k', b', u⟩ := q
    obtain ⟨q1, q2, q3⟩ := e1
    have q2 : b = b' := q2
    subst q2
    exact .cons (vk := .ref b) rfl h0 q3 h (ents_T r e2)
theorem dct_raw {a : Addr} {ds : List (D × D)} (I : Inv X pins σ H s) (r : VRep (cx X ca) ι M H (.ref a) (.dct ds)) :
    (a == sysModules) = false ∧ ds.length ≤ sizeLine ∧ ∃ (o : Obj) (es : Array DictEntry) (ep : Nat), s.heap.get? a = some o ∧ o.ExactDict ∧ o.data = .dict es ep ∧ Ents (cx X ca) ι M H es.toList ds := by
  rcases dct_at I r with ⟨kvs, ⟨hd, z, vs, rel, dd⟩, rk⟩ | ⟨l, ⟨hd, z, xs, rel, dd⟩, rt⟩
  · obtain ⟨o, es, ep, h1, h2, h3, _, h5, _⟩ := dd
    exact ⟨hd, by rw [← rk.length]; exact z, o, es, ep, h1, h2, h3, ents_K rk rel h5⟩
  · obtain ⟨o, es, ep, h1, h2, h3, h4, _⟩ := dd
    exact ⟨hd, by rw [← rt.length]; exact z, o, es, ep, h1, h2, h3, by rw [h4]; exact ents_T rt rel⟩
end
end MP

set_option maxRecDepth 100000
set_option maxHeartbeats 1000000
/-! MP8: in, subscripts, slices, truth. -/
namespace MP
open PySem PySem.Spec PyProof.Rows L2

section
variable {C : RC} {ι : List Addr} {M : Addr → Prop} {H : Hp}
theorem VRep.key {v : V} {d : D} (r : VRep C ι M H v d) (h : kk d ≠ 2) : Rep C ι M H v d := by
  cases r with
  | int i => exact .int i
  | str x => exact .str x
  | tup a b => exact .tup a b
  | _ => exact absurd rfl h
theorem kfit_two {l : List (D × D)} {k : D} (f : kfit l k = true) : kk k ≠ 2 := by
  cases l with
  | nil =>
    have f' : (kk k != 2) = true := f
    exact fun q => by rw [q] at f'; cases f'
  | cons p r =>
    obtain ⟨c, d⟩ := p
    have f' : (kk k != 2 && kk c == kk k) = true := f
    rw [Bool.and_eq_true] at f'
    exact fun q => by rw [q] at f'; cases f'.1
end
section
variable {X : Cx} {ca : Nat → Addr}
theorem in_core {x y : V} {H : Hp} {ι : List Addr} {M : Addr → Prop} {dx dy : D} {b : Bool} (h1 : VRep (cx X ca) ι M H x dx) (h2 : VRep (cx X ca) ι M H y dy) (e : inD dx dy = some b) :
    (∃ d ds, Dp X.K H x d ∧ Dp X.K H y (.list ds) ∧ SeqAt.shaped d = true ∧ SeqAt.shaped (.list ds) = true ∧ b = ds.any fun z => PyData.eqv z d) ∨
    (∃ p xs, y = .ref p ∧ (SqL X.K H p xs ∨ SqT X.K H p xs) ∧ flatV x = true ∧ xs.all flatV = true ∧ b = inV x xs) ∨
    (∃ a ds, y = .ref a ∧ dy = .dct ds ∧ kfit ds dx = true ∧ b = (dget ds dx).isSome) ∨
    (∃ (c : Nat) (z : Str), x = .str ⟨#[c]⟩ ∧ y = .str z ∧ b = decide (c ∈ z.cps.toList)) ∨
    (∃ (x' z : Str), x = .str x' ∧ y = .str z ∧ b = !(Builtin.Str.occurrences z x' 0 z.length 1).isEmpty) := by
  cases h2 with
  | @lst p vs ds hp rs =>
    have e' : (if fit dx 60 && fitL ds 60 then some (ds.any fun z => eqD z dx) else none) = some b := by
      cases dx <;> exact e
    split at e'
    · rename_i hc
      obtain ⟨f1, f2⟩ := Bool.and_eq_true_iff.mp hc
      cases e'
      refine .inl ⟨dx.pd, pdL ds, h1.dp f1, .lst (SqL.of hp) (rs.dp f2), fit_shaped f1 (by decide), ?_, (any_pd f1 f2).symm⟩
      exact fit_shaped (d := .lst ds) (k := 61) f2 (by decide)
    · cases e'
  | @tup p vs ds hp rs =>
    have e' : (if flatD dx && ds.all flatD then some (ds.any fun z => eqD z dx) else none) = some b := by
      cases dx <;> exact e
    split at e'
    · rename_i hc
      obtain ⟨f1, f2⟩ := Bool.and_eq_true_iff.mp hc
      cases e'
      exact .inr (.inl ⟨p, vs, rfl, .inr hp.sq, h1.flat f1, rs.flat f2, (inV_eq h1 f1 rs f2).symm⟩)
    · cases e'
  | str z =>
    cases h1 with
    | str x =>
      have e' : (match x.cps.toList with | [c] => some (decide (c ∈ z.cps.toList)) | _ => some (!(Builtin.Str.occurrences z x 0 z.length 1).isEmpty)) = some b := e
      split at e'
      · rename_i c hc
        cases e'
        refine .inr (.inr (.inr (.inl ⟨c, z, ?_, rfl, rfl⟩)))
        obtain ⟨l⟩ := x
        obtain ⟨m⟩ := l
        simp at hc
        rw [hc]
      · cases e'
        exact .inr (.inr (.inr (.inr ⟨x, z, rfl, rfl, rfl⟩)))
    | _ => cases e
  | @dctK a kvs ds hp rs =>
    have e' : (if kfit ds dx then some (dget ds dx).isSome else none) = some b := by cases dx <;> exact e
    split at e'
    · rename_i hc
      cases e'
      exact .inr (.inr (.inl ⟨a, ds, rfl, rfl, hc, rfl⟩))
    · cases e'
  | @dctT a kvs ds hp rs =>
    have e' : (if kfit ds dx then some (dget ds dx).isSome else none) = some b := by cases dx <;> exact e
    split at e'
    · rename_i hc
      cases e'
      exact .inr (.inr (.inl ⟨a, ds, rfl, rfl, hc, rfl⟩))
    · cases e'
  | @dctG a kvs ds hp rs =>
    have e' : (if kfit ds dx then some (dget ds dx).isSome else none) = some b := by cases dx <;> exact e
    split at e'
    · rename_i hc
      cases e'
      exact .inr (.inr (.inl ⟨a, ds, rfl, rfl, hc, rfl⟩))
    · cases e'
  | _ => cases dx <;> cases e
theorem cmp_in (hu : X.A.units + 65 < cLine) : OpR X (compareOp .In) (rCmp (cx X ca) (cmpD .inn)) := by
  intro pins s σ H x y v u Q I rx ry ⟨ι, M, dx, dy, b, k, h1, h2, e, q⟩
  rcases in_core h1 h2 e with ⟨d, ds, a1, a2, a3, a4, eb⟩ | ⟨p, xs, rfl, a1, a2, a3, eb⟩ | ⟨a, ds, rfl, rfl, f, eb⟩ | ⟨c, z, rfl, rfl, eb⟩ | ⟨x', z, rfl, rfl, eb⟩
  · subst eb
    exact op_inD hu pins s σ H x y v u Q I rx ry ⟨d, ds, a1, a2, a3, a4, q⟩
  · subst eb
    exact op_in_seq pins s σ H x _ v u Q I rx ry ⟨p, xs, rfl, a1, a2, a3, q⟩
  · subst eb
    cases ry
    exact in_dct (by omega) I h2 (h1.key (kfit_two f)) rx f fun t => ⟨.bl _, H, I.tok t, rfl, q⟩
  · subst eb
    exact op_in_sign pins s σ H _ _ v u Q I rx ry ⟨c, z, rfl, rfl, q⟩
  · subst eb
    exact op_in_str pins s σ H _ _ v u Q I rx ry ⟨x', z, rfl, rfl, q⟩
theorem cmp_nin (hu : X.A.units + 65 < cLine) : OpR X (compareOp .NotIn) (rCmp (cx X ca) (cmpD .nin)) := by
  intro pins s σ H x y v u Q I rx ry ⟨ι, M, dx, dy, b, k, h1, h2, e, q⟩
  have e' : (inD dx dy).map (!·) = some b := e
  obtain ⟨c, ec, eb⟩ := Option.map_eq_some_iff.mp e'
  subst eb
  rcases in_core h1 h2 ec with ⟨d, ds, a1, a2, a3, a4, eb⟩ | ⟨p, xs, rfl, a1, a2, a3, eb⟩ | ⟨a, ds, rfl, rfl, f, eb⟩ | ⟨c', z, rfl, rfl, eb⟩ | ⟨x', z, rfl, rfl, eb⟩
  · subst eb
    exact op_notInD hu pins s σ H x y v u Q I rx ry ⟨d, ds, a1, a2, a3, a4, q⟩
  · subst eb
    exact op_notIn_seq pins s σ H x _ v u Q I rx ry ⟨p, xs, rfl, a1, a2, a3, q⟩
  · subst eb
    cases ry
    exact notin_dct (by omega) I h2 (h1.key (kfit_two f)) rx f fun t => ⟨.bl _, H, I.tok t, rfl, q⟩
  · subst eb
    exact op_notIn_sign pins s σ H _ _ v u Q I rx ry ⟨c', z, rfl, rfl, q⟩
  · subst eb
    exact op_notin_str pins s σ H _ _ v u Q I rx ry ⟨x', z, rfl, rfl, q⟩

def copOf : Cop → CmpOp
  | .eq => .Eq | .ne => .NotEq | .lt => .Lt | .le => .LtE | .gt => .Gt | .ge => .GtE | .inn => .In | .nin => .NotIn | .isn => .Is | .notn => .IsNot
theorem cmp_ok (hu : X.A.units + 65 < cLine) : ∀ op, OpR X (compareOp (copOf op)) (rCmp (cx X ca) (cmpD op))
  | .eq => cmp_eq (by omega)
  | .ne => cmp_ne (by omega)
  | .lt => cmp_lt
  | .le => cmp_le
  | .gt => cmp_gt
  | .ge => cmp_ge
  | .inn => cmp_in hu
  | .nin => cmp_nin hu
  | .isn => cmp_is
  | .notn => cmp_isnot
theorem bin_ok : ∀ op, OpR X (binaryOp (bopOf op)) (rBin (cx X ca) (binD op))
  | .add => bin_add
  | .sub => bin_sub
  | .mul => bin_mul
  | .fdiv => bin_fdiv
  | .mod => bin_mod
  | .pow => bin_pow
  | .band => bin_band

/-! ### a[i] -/
theorem atI_rep {C : RC} {ι : List Addr} {M : Addr → Prop} {H : Hp} {vs : List V} {ds : List D} (r : Reps C ι M H vs ds) {i : Int} {d : D} (e : L2.atI ds i = some d) : ∃ v, L2.atI vs i = some v ∧ Rep C ι M H v d := by
  unfold L2.atI at e ⊢
  rw [r.length]
  obtain ⟨j, hj, hd⟩ := Option.bind_eq_some_iff.mp e
  obtain ⟨v, h1, h2⟩ := r.get hd
  exact ⟨v, by rw [hj]; exact h1, h2⟩
/-- the result is what the operation hands back of what is there -/
def rIdx (C : RC) (f : D → D → Option D) : R2 := fun x y H Q => ∃ ι M dx dy d, Known M H ∧ VRep C ι M H x dx ∧ Rep C ι M H y dy ∧ f dx dy = some d ∧ ∀ v, Rep C ι M H v d → Q v H
theorem idx_ok (hu : X.A.units + 65 < cLine) : IxR X (rIdx (cx X ca) idxD) := by
  intro value slice pins s σ H x y v u Q I rx ry ⟨ι, M, dx, dy, d, k, h1, h2, e, q⟩ hs
  have dc : ∀ {a : Addr} {ds : List (D × D)}, x = .ref a → VRep (cx X ca) ι M H (.ref a) (.dct ds) → (if kfit ds dy then dget ds dy else none) = some d → wpAny (model X.prog X.w) X.A (subscriptTail value slice v u) (EP X pins σ Q) X.xe s := fun {a ds} ex h e => by
    subst ex
    cases rx
    split at e
    · rename_i f
      exact tail_any (dct_type I h).1 slot_dict_getitem.lookup (item_dct (by omega) I h h2 ry f e fun v' w' t rv rw' => ⟨v', H, I.tok t, rw', q v' rv⟩) hs
    · cases e
  cases h1 with
  | @lst a vs ds hp rs => cases h2 with
    | int i =>
      obtain ⟨v', h3, h4⟩ := atI_rep rs (show L2.atI ds i = some d from e)
      exact ix_list value slice pins s σ H _ _ v u Q I rx ry ⟨a, vs, i, v', rfl, rfl, SqL.of hp, h3, q _ h4⟩ hs
    | _ => cases e
  | @scr a vs ds hp rs => cases h2 with
    | int i =>
      obtain ⟨v', h3, h4⟩ := atI_rep rs (show L2.atI ds i = some d from e)
      exact ix_list value slice pins s σ H _ _ v u Q I rx ry ⟨a, vs, i, v', rfl, rfl, hp, h3, q _ h4⟩ hs
    | _ => cases e
  | @tup a vs ds hp rs => cases h2 with
    | int i =>
      obtain ⟨v', h3, h4⟩ := atI_rep rs (show L2.atI ds i = some d from e)
      exact ix_tup value slice pins s σ H _ _ v u Q I rx ry ⟨a, vs, i, v', rfl, rfl, hp.sq, h3, q _ h4⟩ hs
    | _ => cases e
  | str z => cases h2 with
    | int i =>
      have e' : (if z.length ≤ lim then (L2.atI z.cps.toList i).map fun c => D.str ⟨#[c]⟩ else none) = some d := e
      split at e'
      · rename_i hc
        obtain ⟨c, h3, h4⟩ := Option.map_eq_some_iff.mp e'
        subst h4
        exact ix_str value slice pins s σ H _ _ v u Q I rx ry ⟨z, i, c, rfl, rfl, lim_le hc, h3, q _ (.str _)⟩ hs
      · cases e'
    | _ => cases e
  | @dctK a kvs ds hp rs => exact dc rfl (.dctK hp rs) (by cases dy <;> exact e)
  | @dctT a kvs ds hp rs => exact dc rfl (.dctT hp rs) (by cases dy <;> exact e)
  | @dctG a kvs ds hp rs => exact dc rfl (.dctG hp rs) (by cases dy <;> exact e)
  | _ => cases dy <;> cases e

/-! ### a[lo:hi] -/
theorem cut_rep {C : RC} {ι : List Addr} {M : Addr → Prop} {H : Hp} {vs : List V} {ds : List D} (r : Reps C ι M H vs ds) (lo hi : Option Int) : Reps C ι M H (L2.cutV vs lo hi) (cutL ds lo hi) := by
  have drop : ∀ (n : Nat) {vs : List V} {ds : List D}, Reps C ι M H vs ds → Reps C ι M H (vs.drop n) (ds.drop n) := by
    intro n
    induction n with
    | zero => intro vs ds r; exact r
    | succ n ih => intro vs ds r; cases r with
      | nil => exact .nil
      | cons _ r => exact ih r
  have take : ∀ (n : Nat) {vs : List V} {ds : List D}, Reps C ι M H vs ds → Reps C ι M H (vs.take n) (ds.take n) := by
    intro n
    induction n with
    | zero => intro vs ds r; exact .nil
    | succ n ih => intro vs ds r; cases r with
      | nil => exact .nil
      | cons h r => exact .cons h (ih r)
  unfold L2.cutV cutL
  rw [r.length]
  exact take _ (drop _ r)
def rSlc (C : RC) : V → Option Int → Option Int → Hp → VK → Prop := fun x lo hi H Q => ∃ ι M dx d, Known M H ∧ VRep C ι M H x dx ∧ slcD dx lo hi = some d ∧ ∀ H' v, Same H H' → Rep C ι M H' v d → Q v H'
theorem slc_ok : SlR X (rSlc (cx X ca)) := by
  intro pins s σ H x v vl vu lo hi sl Q I rx hs pl pu ⟨ι, M, dx, d, k, h1, e, q⟩
  cases h1 with
  | @lst a vs ds hp rs =>
    cases e
    exact sl_list pins s σ H _ v vl vu lo hi sl Q I rx hs pl pu ⟨a, vs, rfl, SqL.of hp, fun p np => q _ _ (same_laid np) (.lstNew k np (cut_rep rs lo hi))⟩
  | @tup a vs ds hp rs =>
    cases e
    refine sl_tupN pins s σ H _ v vl vu lo hi sl Q I rx hs pl pu ⟨a, vs, rfl, hp.sq, fun w => ?_, fun _ p o np ho => q _ _ (same_laid np) (.tupNew k np ho (cut_rep rs lo hi))⟩
    have eq : cutL ds lo hi = ds := by
      unfold cutL
      rw [← rs.length, w.1, w.2, Nat.sub_zero, List.drop_zero, rs.length, List.take_length]
    rw [eq] at q
    exact q _ _ Same.rfl' (.tup hp rs)
  | str z =>
    have e' : (if z.length ≤ lim then some (D.str (L2.cutS z lo hi)) else none) = some d := e
    split at e'
    · rename_i hc
      cases e'
      exact sl_str pins s σ H _ v vl vu lo hi sl Q I rx hs pl pu ⟨z, rfl, lim_le hc, q _ _ Same.rfl' (.str _)⟩
    · cases e'
  | _ => cases e
end
end MP

set_option maxRecDepth 100000
set_option maxHeartbeats 1000000
/-! MP8b: a[k] = v. -/
namespace MP
open PySem PySem.Spec PyProof.Rows L2
def putT (l : List (NestedKey × Addr × V)) (k : NestedKey) (b : Addr) (v : V) : List (NestedKey × Addr × V) :=
  if l.any (fun p => decide (p.1 = k)) then l.map (fun p => if p.1 = k then (p.1, p.2.1, v) else p) else l ++ [(k, b, v)]
section
variable {C : RC} {ι : List Addr} {M : Addr → Prop} {H : Hp}
theorem Reps.set : ∀ {ds : List D} {vs : List V}, Reps C ι M H vs ds → ∀ (j : Nat) {v : V} {d : D}, Rep C ι M H v d → Reps C ι M H (vs.set j v) (ds.set j d)
  | _, _, .nil, _, _, _, _ => .nil
  | _, _, .cons _ r, 0, _, _, h => .cons h r
  | _, _, .cons h0 r, j + 1, _, _, h => .cons h0 (r.set j h)
theorem RepTs.put : ∀ {ds : List (D × D)} {l : List (NestedKey × Addr × V)}, RepTs C ι M H l ds → ∀ (k : NestedKey) {b : Addr} {v : V} {d : D}, TupKey k → Rep C ι M H (.ref b) (nkD k) → Rep C ι M H v d → (l.map (·.1)).Nodup → RepTs C ι M H (putT l k b v) (dput ds (nkD k) d)
  | _, _, .nil, k, b, v, d, t, hb, h, _ => .cons t hb h .nil
  | _, _, @RepTs.cons _ _ _ _ j b0 u vs c ds t0 h0 h1 r, k, b, v, d, t, hb, h, nd => by
    rw [List.map_cons, List.nodup_cons] at nd
    have e0 : dput ((nkD j, c) :: ds) (nkD k) d = if eqD (nkD j) (nkD k) = true then (nkD j, d) :: ds else (nkD j, c) :: dput ds (nkD k) d := rfl
    rw [e0, eqD_nk]
    by_cases e : j = k
    · subst e
      rw [if_pos (decide_eq_true rfl)]
      have : putT ((j, b0, u) :: vs) j b v = (j, b0, v) :: vs := by
        unfold putT
        rw [if_pos (by simp), List.map_cons, if_pos rfl]
        congr 1
        rw [List.map_congr_left (g := id)]
        · simp
        · intro p hp
          rw [if_neg]
          · rfl
          · intro q
            exact nd.1 (List.mem_map.mpr ⟨p, hp, q⟩)
      rw [this]
      exact .cons t0 h0 h r
    · rw [if_neg (by rw [decide_eq_false e]; exact Bool.false_ne_true)]
      have : putT ((j, b0, u) :: vs) k b v = (j, b0, u) :: putT vs k b v := by
        unfold putT
        rw [List.any_cons, decide_eq_false (show ¬ (j, b0, u).1 = k from e), Bool.false_or]
        split
        · rw [List.map_cons, if_neg (show ¬ (j, b0, u).1 = k from e)]
        · rfl
      rw [this]
      exact .cons t0 h0 h1 (RepTs.put r k t hb h nd.2)
theorem putT_length (l : List (NestedKey × Addr × V)) (k : NestedKey) (b : Addr) (v : V) : (putT l k b v).length ≤ l.length + 1 := by
  unfold putT
  split
  · rw [List.length_map]; omega
  · rw [List.length_append]; exact Nat.le_refl _
theorem SameT.keys : ∀ {l : List (NestedKey × Addr × V)} {xs : List (NestedKey × Addr × Value)}, Paired SameT l xs → l.map (·.1) = xs.map (·.1)
  | _, _, .nil => rfl
  | _, _, .cons h r => by rw [List.map_cons, List.map_cons, h.1, SameT.keys r]
theorem SameT.any {k : NestedKey} : ∀ {l : List (NestedKey × Addr × V)} {xs : List (NestedKey × Addr × Value)}, Paired SameT l xs → l.any (fun p => decide (p.1 = k)) = xs.any (fun x => decide (x.1 = k))
  | _, _, .nil => rfl
  | _, _, .cons h r => by rw [List.any_cons, List.any_cons, h.1, SameT.any r]
theorem SameT.map {k : NestedKey} {v : V} {u : Value} (ru : RelV v u) : ∀ {l : List (NestedKey × Addr × V)} {xs : List (NestedKey × Addr × Value)}, Paired SameT l xs → Paired SameT (l.map fun p => if p.1 = k then (p.1, p.2.1, v) else p) (xs.map fun x => if x.1 = k then (x.1, x.2.1, u) else x)
  | _, _, .nil => .nil
  | _, _, .cons (a := p) (b := q) h r => by
    rw [List.map_cons, List.map_cons]
    refine .cons ?_ (SameT.map ru r)
    obtain ⟨h1, h2, h3⟩ := h
    rw [h1]
    split
    · exact ⟨rfl, h2, ru⟩
    · exact ⟨h1, h2, h3⟩
theorem SameT.put {k : NestedKey} {b : Addr} {v : V} {u : Value} (ru : RelV v u) {l : List (NestedKey × Addr × V)} {xs : List (NestedKey × Addr × Value)} (r : Paired SameT l xs) : Paired SameT (putT l k b v) (storedH xs k b u) := by
  have e : (atKey xs k).isSome = xs.any (fun x => decide (x.1 = k)) := by
    unfold atKey
    rw [Option.isSome_map]
    clear r
    induction xs with
    | nil => rfl
    | cons y ys ih =>
      rw [List.find?_cons, List.any_cons]
      cases decide (y.1 = k) with
      | true => rfl
      | false => simpa using ih
  unfold putT storedH
  rw [e, SameT.any r]
  split
  · exact SameT.map ru r
  · have ap : ∀ {l : List (NestedKey × Addr × V)} {xs : List (NestedKey × Addr × Value)}, Paired SameT l xs → Paired SameT (l ++ [(k, b, v)]) (xs ++ [(k, b, u)]) := by
      intro l xs r
      induction r with
      | nil => exact .cons ⟨rfl, rfl, ru⟩ .nil
      | cons h _ ih => exact .cons h ih
    exact ap r
def rPut (C : RC) : TSet := fun o i v H Qn => ∃ ι M a d dk dv d', o = .ref a ∧ ContAt C ι M H a d ∧ Rep C ι M H i dk ∧ Rep C ι M H v dv ∧ setD d dk dv = some d' ∧ ∀ o', (∀ M', Go ι M H ι M' (upd H a o') → ContAt C ι M' (upd H a o') a d') → Qn (upd H a o')
theorem set_put {X : Cx} {ca : Nat → Addr} (hu : X.A.units + 65 < cLine) : PSet X (rPut (cx X ca)) := by
  intro pins s σ H o i v ov iv u Qn I ro ri rv ⟨ι, M, a, d, dk, dv, d', eo, c, rk, rdv, eq, q⟩
  subst eo
  cases c with
  | @lst vs ds hh rs =>
    cases rk <;> first | (cases eq; done) | skip
    rename_i k
    obtain ⟨j, hj, rfl⟩ := Option.map_eq_some_iff.mp (show (L2.ixN ds.length k).map (fun j => D.lst (ds.set j dv)) = some d' from eq)
    exact set_list pins s σ H _ _ v ov iv u Qn I ro ri rv ⟨a, vs, k, j, rfl, rfl, hh, by rw [rs.length]; exact hj, q _ fun M' g => .lst upd_same ((rs.set j rdv).go g)⟩
  | @ins c dx vfs fs hh rf => cases eq
  | _ =>
    rename_i ds hh rs
    have mu : Mut (H a) := by rw [hh]; exact True.intro
    have rvr : VRep (cx X ca) ι M H (.ref a) (.dct ds) := by first | exact .dctK (.inl hh) rs | exact .dctT (.inl hh) rs
    clear rs hh
    have eq' : (if kfit ds dk && decide (ds.length < lim) then some (D.dct (dput ds dk dv)) else none) = some d' := eq
    split at eq'
    · rename_i hc
      obtain ⟨f, hl⟩ := Bool.and_eq_true_iff.mp hc
      have hl := of_decide_eq_true hl
      have hlim : lim < sizeLine := by decide
      cases eq'
      cases ro
      rcases dct_key I rvr rk ri f with ⟨k, kvs, rfl, rfl, ⟨hd, z, vs, rel, dd⟩, rks⟩ | ⟨k, b, l, rfl, t, rfl, rfl, hk, ⟨hd, z, xs, rel, dd⟩, rts⟩
      · have nd : (kvs.map (·.1)).Nodup := by
          obtain ⟨_, _, _, _, _, _, _, _, nd⟩ := dd
          rw [KV.keys rel]; exact nd
        refine wpAny_setItem_pairs (kV_is ri) dd (fun h' dd' hs => ?_) (by rw [← rel.length]; exact z)
        have he : ∃ q, h'.get? a = some q := let ⟨q, _, _, hq, _⟩ := dd'; ⟨q, hq⟩
        have hz : (putK kvs k v).length ≤ sizeLine := by have := length_putK kvs k v; have := rks.length; omega
        exact ⟨_, d_write I mu hs he (dk_new hz hd (rel.put k rv) dd'), q _ fun M' g => .dctK upd_same ((rks.put k rdv nd).go g)⟩
      · have nd : (l.map (·.1)).Nodup := by
          obtain ⟨_, _, _, _, _, _, _, _, nd⟩ := dd
          rw [SameT.keys rel]; exact nd
        cases ri
        have hb : Rep (cx X ca) ι M H (.ref b) (nkD k) := rk
        refine wpAny_setItem_heap (room_nest (A := X.A) (by omega)) hk dd (fun h' dd' hs => ?_) (by rw [← rel.length]; exact z)
        obtain ⟨o2, es, ep, g1, g2, g3, g4, g5, g6⟩ := dd'
        have rel' : Paired SameT (putT l k b v) (storedH xs k b u) := SameT.put rv rel
        have hz : (putT l k b v).length ≤ sizeLine := by have := putT_length l k b v; have := rts.length; omega
        have pr : ∀ {l : List (NestedKey × Addr × V)} {xs : List (NestedKey × Addr × Value)}, Paired SameT l xs → Paired (fun (p : NestedKey × Addr × V) (e : DictEntry) => e.hash = p.1.hash X.w ∧ e.key = .ref p.2.1 ∧ RelV p.2.2 e.val) l (xs.map (entryOfKey (nestedKind X.prog X.w))) := by
          intro l xs r
          induction r with
          | nil => exact .nil
          | cons h _ ih =>
            obtain ⟨h1, h2, h3⟩ := h
            rw [List.map_cons]
            exact .cons ⟨by rw [h1]; rfl, by rw [h2]; rfl, h3⟩ ih
        have new : ObjOk X.prog X.w (upd H a (.ext (dtPhi X.w a (putT l k b v)))) h' a (.ext (dtPhi X.w a (putT l k b v))) := by
          refine ⟨⟨hz, hd, by rw [SameT.keys rel']; exact g6, o2, es, ep, g1, g2, g3, by rw [g4]; exact pr rel'⟩, ⟨o2, g1⟩, fun h1 h2 p k => ?_⟩
          obtain ⟨p1, p2, p3, o3, es3, ep3, p4, p5⟩ := p
          exact ⟨p1, p2, p3, o3, es3, ep3, k _ p4, p5⟩
        exact ⟨_, d_write (t' := s.toks + (nestedKind X.prog X.w).draws k) I mu hs ⟨o2, g1⟩ new, q _ fun M' g => .dctT upd_same ((rts.put k t hb rdv nd).go g)⟩
    · cases eq'
end
end MP

set_option maxRecDepth 100000
set_option maxHeartbeats 1000000
/-! MP9: truth, built-in calls, isinstance. -/
namespace MP
open PySem PySem.Spec PyProof.Rows L2

inductive VReps (C : RC) (ι : List Addr) (M : Addr → Prop) (H : Hp) : List V → List D → Prop
  | nil : VReps C ι M H [] []
  | cons {v : V} {vs : List V} {d : D} {ds : List D} : VRep C ι M H v d → VReps C ι M H vs ds → VReps C ι M H (v :: vs) (d :: ds)
/-- a pure call on contents -/
def rC (C : RC) (f : List D → Option D) : List V → Hp → VK → Prop := fun xs H Q => ∃ ι M ds d, Known M H ∧ VReps C ι M H xs ds ∧ f ds = some d ∧ ∀ H' v, Same H H' → Rep C ι M H' v d → Q v H'
theorem cr_imp {X : Cx} {f : Value} {r r' : List V → Hp → VK → Prop} (h : CallR X f r) (i : ∀ xs H Q, r' xs H Q → r xs H Q) : CallR X f r' :=
  fun pins s σ H xs us Q I rv q => h pins s σ H xs us Q I rv (i xs H Q q)
theorem CallR.or {X : Cx} {f : Value} {r r' : List V → Hp → VK → Prop} (h : CallR X f r) (h' : CallR X f r') : CallR X f (fun xs H Q => r xs H Q ∨ r' xs H Q) :=
  fun pins s σ H xs us Q I rv q => q.elim (h pins s σ H xs us Q I rv) (h' pins s σ H xs us Q I rv)

section
variable {X : Cx} {ca : Nat → Addr}
theorem VRep.tru {C : RC} {ι : List Addr} {M : Addr → Prop} {H : Hp} {v : V} {d : D} {b : Bool} (r : VRep C ι M H v d) (e : truD d = some b) : TruV C.K v H b := by
  cases r with
  | non => cases e; rfl
  | bl b => cases e; rfl
  | int i => cases e; rfl
  | str x =>
    have e' : (if x.length ≤ lim then some (x.length != 0) else none) = some b := e
    split at e'
    · rename_i hc
      cases e'
      refine ⟨lim_le hc, ?_⟩
      cases x.length <;> rfl
    · cases e'
  | @tup a vs ds h r =>
    cases e
    refine .inr (.inl ⟨vs, h.sq, ?_⟩)
    cases r <;> rfl
  | @lst a vs ds h r =>
    cases e
    refine .inl ⟨vs, SqL.of h, ?_⟩
    cases r <;> rfl
  | scr h r => cases e
  | dctK h r => cases e
  | dctT h r => cases e
  | dctG h r => cases e
  | ins h r => cases e
end
section
variable {X : Cx} {ca : Nat → Addr}
def bltV : Blt → Value
  | .len => .builtin "len" | .int => .type "int" | .list => .type "list" | .tuple => .type "tuple" | .abs => .builtin "abs" | .max => .builtin "max" | .min => .builtin "min"
  | .str => .type "str" | .bool => .type "bool" | .dict => .type "dict" | .all => .builtin "all"
theorem Reps.len' {C : RC} {ι : List Addr} {M : Addr → Prop} {H : Hp} {ds : List D} {vs : List V} (r : Reps C ι M H vs ds) : (vs.length : Int) = (ds.length : Int) := by rw [r.length]
/-- an operation that makes a list or dict -/
def rCF (C : RC) (f : List D → Option D) : List V → Hp → VK → Prop := fun xs H Q => ∃ ι M ds d, Known M H ∧ VReps C ι M H xs ds ∧ f ds = some d ∧ ∀ p o, H p = none → (∀ M', Go ι M H ι M' (upd H p o) → ContAt C ι M' (upd H p o) p d) → Q (.ref p) (upd H p o)
theorem call_lenDct : CallR X (.builtin "len") (fun xs H Q => ∃ ι M a ds, xs = [V.ref a] ∧ VRep (cx X ca) ι M H (.ref a) (.dct ds) ∧ Q (.int ds.length) H) := by
  intro pins s σ H xs us Q I r ⟨ι, M, a, ds, ex, rv, q⟩
  subst ex
  obtain ⟨u, rfl, rx⟩ := vals1 r
  cases rx
  obtain ⟨lo, z, o, es, ep, h1, h2, h3, en⟩ := dct_raw I rv
  have el : (es.size : Int) = ds.length := by have := en.length; rw [Array.length_toList] at this; omega
  rw [sizeLine_eq] at z
  refine call_len_slot (n := (es.size : Int)) ⟨o, h1, h2.1⟩ F.slot_dict_len (fun Q' hq => call_len_raw lo ⟨o, h1, h2, h3⟩ hq) (by omega) (by omega) ?_
  exact ⟨.int ds.length, H, I.tok _, ⟨_, by rw [el]⟩, q⟩
theorem call_listDct (hc : X.calm = true) : CallR X (.type "list") (fun xs H Q => ∃ ι M a ds, xs = [V.ref a] ∧ VRep (cx X ca) ι M H (.ref a) (.dct ds) ∧ ∀ p vs, H p = none → Reps (cx X ca) ι M H vs (ds.map (·.1)) → Q (.ref p) (upd H p (.lst vs))) := by
  intro pins s σ H xs us Q I r ⟨ι, M, a, ds, ex, rv, q⟩
  subst ex
  obtain ⟨u, rfl, rx⟩ := vals1 r
  cases rx
  obtain ⟨lo, z, o, es, ep, h1, h2, h3, en⟩ := dct_raw I rv
  obtain ⟨vs, hv, rs⟩ := en.keys
  have el : es.size = ds.length := by have := en.length; rw [Array.length_toList] at this; omega
  refine PySem.W.kdl_call (kdl_raw lo h2 h3) (I.ok.hd hc) h1 (by rw [el]; exact z) fun h' tk acc' c' hkeep hS hacc => ?_
  have ea : acc'.toList = es.toList.map (·.key) := by
    refine List.ext_getElem? fun j => ?_
    by_cases hj : j < acc'.size
    · obtain ⟨e2, he2, ev⟩ := hacc.2 j acc'[j] (Array.getElem?_eq_getElem hj)
      rw [Array.getElem?_toList, Array.getElem?_eq_getElem hj, List.getElem?_map, Array.getElem?_toList, he2]
      exact congrArg some ev
    · rw [List.getElem?_eq_none (by simpa using Nat.le_of_not_lt hj), List.getElem?_eq_none (by have := hacc.1; simp; omega)]
  refine ⟨.ref s.heap.objs.size, upd H s.heap.objs.size (.lst vs), I.laid hkeep (Nat.le_refl _) (show ObjOk X.prog X.w _ _ _ (.lst vs) from ⟨?_, acc'.toList, c', by rw [ea]; exact hv, by rw [Array.toArray_toList]; exact hS⟩), rfl, q _ vs (I.hok.fresh (Nat.le_refl _)) rs⟩
  rw [rs.length, List.length_map]; exact z
theorem dct_mix {pins : List (Addr × Obj)} {σ : L2.St} {s : Shared} {ι : List Addr} {M : Addr → Prop} {H : Hp} {a : Addr} {ds : List (D × D)} (I : Inv X pins σ H s) (r : VRep (cx X ca) ι M H (.ref a) (.dct ds)) (f : (ds.all fun p => kk p.1 == 0) = true) :
    ∃ kvs, MixAt X.prog X.w s.heap a kvs ∧ RepKs (cx X ca) ι M H kvs ds := by
  rcases dct_at I r with q | ⟨l, m, rt⟩
  · exact q
  · cases rt with
    | nil => exact ⟨[], m.mix, .nil⟩
    | cons t h0 h rt =>
      rw [List.all_cons, kk_tup t] at f
      cases f
theorem call_dictDct : CallR X (.type "dict") (fun xs H Q => ∃ ι M a ds, xs = [V.ref a] ∧ VRep (cx X ca) ι M H (.ref a) (.dct ds) ∧ (ds.all fun p => kk p.1 == 0) = true ∧ ∀ p kvs, H p = none → RepKs (cx X ca) ι M H kvs ds → Q (.ref p) (upd H p (.dK kvs))) := by
  intro pins s σ H xs us Q I r ⟨ι, M, a, ds, ex, rv, f, q⟩
  subst ex
  obtain ⟨u, rfl, rx⟩ := vals1 r
  cases rx
  obtain ⟨kvs, ⟨lo, z, vs, rel, dd⟩, rk⟩ := dct_mix I rv f
  refine kt_call_dict lo dd (by rw [← rel.length]; exact z) fun h' d' hs => ?_
  have hm : (s.heap.objs.size == sysModules) = false := beq_eq_false_iff_ne.mpr (Nat.ne_of_gt I.big)
  refine ⟨.ref s.heap.objs.size, upd H s.heap.objs.size (.dK kvs), ?_, rfl, q _ kvs (I.hok.fresh (Nat.le_refl _)) rk⟩
  have new : ObjOk X.prog X.w (upd H s.heap.objs.size (.dK kvs)) h' s.heap.objs.size (.dK kvs) := ⟨z, hm, vs, rel, d'⟩
  exact I.laid (t' := s.toks) (fun b u e => (hs.2 b (Nat.ne_of_lt (Heap.lt_size e))).trans (Heap.get?_push_of_some _ e)) (Nat.le_refl _) new
theorem blt_len : CallR X (.builtin "len") (rC (cx X ca) (bltD .len)) := cr_imp (CallR.or (CallR.or call_len_seq call_len_str) (call_lenDct (ca := ca))) fun xs H Q ⟨ι, M, ds, d, k, rs, e, q⟩ => by
  cases rs with
  | nil => cases e
  | cons r rs =>
    cases rs with
    | cons r2 rs => cases r <;> cases e
    | nil =>
      cases r with
      | str x =>
        have e' : (if x.length ≤ lim then some (D.int x.length) else none) = some d := e
        split at e'
        · rename_i hc
          cases e'
          exact .inl (.inr ⟨x, rfl, lim_le hc, q _ _ Same.rfl' (.int _)⟩)
        · cases e'
      | @tup a vs ds h r => cases e; exact .inl (.inl ⟨a, vs, rfl, .inr h.sq, by rw [r.len']; exact q _ _ Same.rfl' (.int _)⟩)
      | @lst a vs ds h r => cases e; exact .inl (.inl ⟨a, vs, rfl, .inl (SqL.of h), by rw [r.len']; exact q _ _ Same.rfl' (.int _)⟩)
      | @scr a vs ds h r => cases e; exact .inl (.inl ⟨a, vs, rfl, .inl h, by rw [r.len']; exact q _ _ Same.rfl' (.int _)⟩)
      | @dctK a kvs ds h r => cases e; exact .inr ⟨ι, M, a, ds, rfl, .dctK h r, q _ _ Same.rfl' (.int _)⟩
      | @dctT a kvs ds h r => cases e; exact .inr ⟨ι, M, a, ds, rfl, .dctT h r, q _ _ Same.rfl' (.int _)⟩
      | @dctG a kvs ds h r => cases e; exact .inr ⟨ι, M, a, ds, rfl, .dctG h r, q _ _ Same.rfl' (.int _)⟩
      | _ => cases e
theorem blt_list (hc : X.calm = true) : CallR X (.type "list") (rCF (cx X ca) (bltD .list)) := cr_imp (CallR.or call_list_of (call_listDct (ca := ca) hc)) fun xs H Q ⟨ι, M, ds, d, k, rs, e, q⟩ => by
  cases rs with
  | nil => cases e
  | cons r rs =>
    cases rs with
    | cons r2 rs => cases r <;> cases e
    | nil =>
      have dc : ∀ {a ds}, VRep (cx X ca) ι M H (.ref a) (.dct ds) → D.lst (ds.map (·.1)) = d → ∃ ι M a' ds, [V.ref a] = [V.ref a'] ∧ VRep (cx X ca) ι M H (.ref a') (.dct ds) ∧ ∀ p vs, H p = none → Reps (cx X ca) ι M H vs (ds.map (·.1)) → Q (.ref p) (upd H p (.lst vs)) := fun {a ds} r e =>
        ⟨ι, M, a, ds, rfl, r, fun p vs hp rs => q p _ hp fun M' g => by rw [← e]; exact .lst upd_same (rs.go g)⟩
      cases r with
      | @tup a vs ds h r => cases e; exact .inl ⟨a, vs, rfl, .inr h.sq, fun l hl => q l _ hl fun M' g => .lst upd_same (r.go g)⟩
      | @lst a vs ds h r => cases e; exact .inl ⟨a, vs, rfl, .inl (SqL.of h), fun l hl => q l _ hl fun M' g => .lst upd_same (r.go g)⟩
      | dctK h r => exact .inr (dc (.dctK h r) (by cases e; rfl))
      | dctT h r => exact .inr (dc (.dctT h r) (by cases e; rfl))
      | dctG h r => exact .inr (dc (.dctG h r) (by cases e; rfl))
      | _ => cases e
theorem blt_dict : CallR X (.type "dict") (rCF (cx X ca) (bltD .dict)) := cr_imp (call_dictDct (ca := ca)) fun xs H Q ⟨ι, M, ds, d, k, rs, e, q⟩ => by
  cases rs with
  | nil => cases e
  | cons r rs =>
    cases rs with
    | cons r2 rs => cases r <;> cases e
    | nil =>
      have dc : ∀ {a ds}, VRep (cx X ca) ι M H (.ref a) (.dct ds) → (if (ds.all fun p => kk p.1 == 0) then some (D.dct ds) else none) = some d → ∃ ι M a' ds, [V.ref a] = [V.ref a'] ∧ VRep (cx X ca) ι M H (.ref a') (.dct ds) ∧ (ds.all fun p => kk p.1 == 0) = true ∧ ∀ p kvs, H p = none → RepKs (cx X ca) ι M H kvs ds → Q (.ref p) (upd H p (.dK kvs)) := fun {a ds} r e => by
        split at e
        · rename_i f
          cases e
          exact ⟨ι, M, a, ds, rfl, r, f, fun p kvs hp rs => q p _ hp fun M' g => .dctK upd_same (rs.go g)⟩
        · cases e
      cases r with
      | dctK h r => exact dc (.dctK h r) e
      | dctT h r => exact dc (.dctT h r) e
      | dctG h r => exact dc (.dctG h r) e
      | _ => cases e
theorem all_rep {C : RC} {ι : List Addr} {M : Addr → Prop} {H : Hp} : ∀ {ds : List D} {vs : List V} {b : Bool}, Reps C ι M H vs ds → allBl ds = some b → ∃ bs : List Bool, vs = bs.map V.bl ∧ b = bs.all id
  | _, _, _, .nil, e => by cases e; exact ⟨[], rfl, rfl⟩
  | _, _, b, .cons h r, e => by
    cases h <;> first | (cases e; done) | skip
    rename_i c
    obtain ⟨b', e1, e2⟩ := Option.map_eq_some_iff.mp (show (allBl _).map (c && ·) = some b from e)
    obtain ⟨bs, h1, h2⟩ := all_rep r e1
    exact ⟨c :: bs, by rw [h1]; rfl, by rw [← e2, h2]; rfl⟩
theorem blt_all (hc : X.calm = true) : CallR X (.builtin "all") (rC (cx X ca) (bltD .all)) := cr_imp (cr_all hc) fun xs H Q ⟨ι, M, ds, d, k, rs, e, q⟩ => by
  cases rs with
  | nil => cases e
  | cons r rs =>
    cases rs with
    | cons r2 rs => cases r <;> cases e
    | nil =>
      cases r with
      | @lst a vs ds h r =>
        obtain ⟨b, e1, rfl⟩ := Option.map_eq_some_iff.mp (show (allBl ds).map D.bl = some d from e)
        obtain ⟨bs, rfl, rfl⟩ := all_rep r e1
        exact ⟨a, bs, rfl, SqL.of h, q _ _ Same.rfl' (.bl _)⟩
      | _ => cases e
def freshBlt : Blt → Bool
  | .list => true
  | .dict => true
  | _ => false
theorem blt_int : CallR X (.type "int") (rC (cx X ca) (bltD .int)) := cr_imp call_int1 fun xs H Q ⟨ι, M, ds, d, k, rs, e, q⟩ => by
  cases rs with
  | nil => cases e
  | cons r rs =>
    cases rs with
    | cons r2 rs => cases r <;> cases e
    | nil =>
      cases r with
      | int i => cases e; exact .inl ⟨_, rfl, q _ _ Same.rfl' (.int _)⟩
      | bl b => cases e; exact .inr ⟨_, rfl, q _ _ Same.rfl' (.int _)⟩
      | _ => cases e
theorem blt_bool : CallR X (.type "bool") (rC (cx X ca) (bltD .bool)) := cr_imp call_bool1 fun xs H Q ⟨ι, M, ds, d, k, rs, e, q⟩ => by
  cases rs with
  | nil => cases e
  | cons r rs =>
    cases rs with
    | cons r2 rs => cases r <;> cases e
    | nil =>
      cases r with
      | int i => cases e; exact .inl ⟨_, rfl, q _ _ Same.rfl' (.bl _)⟩
      | bl b => cases e; exact .inr ⟨_, rfl, q _ _ Same.rfl' (.bl _)⟩
      | _ => cases e
theorem blt_abs : CallR X (.builtin "abs") (rC (cx X ca) (bltD .abs)) := cr_imp call_abs fun xs H Q ⟨ι, M, ds, d, k, rs, e, q⟩ => by
  cases rs with
  | nil => cases e
  | cons r rs =>
    cases rs with
    | cons r2 rs => cases r <;> cases e
    | nil =>
      cases r with
      | int i => cases e; exact ⟨_, rfl, q _ _ Same.rfl' (.int _)⟩
      | _ => cases e
theorem blt_str : CallR X (.type "str") (rC (cx X ca) (bltD .str)) := cr_imp (CallR.or SkE.call_str_str call_str_int) fun xs H Q ⟨ι, M, ds, d, k, rs, e, q⟩ => by
  cases rs with
  | nil => cases e
  | cons r rs =>
    cases rs with
    | cons r2 rs => cases r <;> cases e
    | nil =>
      cases r with
      | str x => cases e; exact .inl ⟨_, rfl, q _ _ Same.rfl' (.str _)⟩
      | int i =>
        have e' : (if i.natAbs < 2 ^ 64 then some (D.str (toString i)) else none) = some d := e
        split at e'
        · rename_i hc
          cases e'
          refine .inr ⟨_, rfl, ?_, q _ _ Same.rfl' (.str _)⟩
          by_cases z : i.natAbs = 0
          · rw [z]; decide
          · exact Nat.lt_trans ((Nat.log2_lt z).mpr hc) (by decide)
        · cases e'
      | _ => cases e
theorem blt_tuple : CallR X (.type "tuple") (rC (cx X ca) (bltD .tuple)) := cr_imp (CallR.or call_tupleN call_tuple_of) fun xs H Q ⟨ι, M, ds, d, k, rs, e, q⟩ => by
  cases rs with
  | nil => cases e
  | cons r rs =>
    cases rs with
    | cons r2 rs => cases r <;> cases e
    | nil =>
      cases r with
      | @tup a vs ds h r => cases e; exact .inr ⟨a, vs, rfl, .inr ⟨h.sq, q _ _ Same.rfl' (.tup h r)⟩⟩
      | @lst a vs ds h r => cases e; exact .inl ⟨a, vs, rfl, SqL.of h, fun l o hl ho => q _ _ (same_laid hl) (.tupNew k hl ho r)⟩
      | _ => cases e
theorem blt_max (hc : X.calm = true) : CallR X (.builtin "max") (rC (cx X ca) (bltD .max)) := cr_imp (call_max2 hc) fun xs H Q ⟨ι, M, ds, d, k, rs, e, q⟩ => by
  cases rs with
  | nil => cases e
  | cons r rs =>
    cases rs with
    | nil => cases r <;> cases e
    | cons r2 rs =>
      cases rs with
      | cons r3 rs => cases r <;> cases r2 <;> cases e
      | nil =>
        cases r with
        | int i => cases r2 with
          | int j => cases e; exact ⟨_, _, rfl, q _ _ Same.rfl' (.int _)⟩
          | _ => cases e
        | _ => cases r2 <;> cases e
theorem blt_min (hc : X.calm = true) : CallR X (.builtin "min") (rC (cx X ca) (bltD .min)) := cr_imp (call_min2 hc) fun xs H Q ⟨ι, M, ds, d, k, rs, e, q⟩ => by
  cases rs with
  | nil => cases e
  | cons r rs =>
    cases rs with
    | nil => cases r <;> cases e
    | cons r2 rs =>
      cases rs with
      | cons r3 rs => cases r <;> cases r2 <;> cases e
      | nil =>
        cases r with
        | int i => cases r2 with
          | int j => cases e; exact ⟨_, _, rfl, q _ _ Same.rfl' (.int _)⟩
          | _ => cases e
        | _ => cases r2 <;> cases e
theorem blt_ok (hc : X.calm = true) : ∀ b, freshBlt b = false → CallR X (bltV b) (rC (cx X ca) (bltD b))
  | .len, _ => blt_len
  | .int, _ => blt_int
  | .tuple, _ => blt_tuple
  | .abs, _ => blt_abs
  | .max, _ => blt_max hc
  | .min, _ => blt_min hc
  | .str, _ => blt_str
  | .bool, _ => blt_bool
  | .all, _ => blt_all hc
theorem bltF_ok (hc : X.calm = true) : ∀ b, freshBlt b = true → CallR X (bltV b) (rCF (cx X ca) (bltD b))
  | .list, _ => blt_list hc
  | .dict, _ => blt_dict
end

/-! ### isinstance -/
def tyVal (ca : Nat → Addr) : Ty → Value
  | .int => .type "int" | .str => .type "str" | .bool => .type "bool" | .list => .type "list" | .tuple => .type "tuple" | .cls c => .ref (ca c)
def tyV (ca : Nat → Addr) : Ty → V
  | .int => .ty "int" | .str => .ty "str" | .bool => .ty "bool" | .list => .ty "list" | .tuple => .ty "tuple" | .cls c => .ref (ca c)
/-- the classes, as instances have them -/
structure ClsF (K : PySem.W.Frag) (C : Addr) : Prop where
  nsq : PySem.W.noSeq K C = true
  cl : Cls K C
  ha : PySem.W.findIn K (.ref C) "__class__" = some (some (.builtin "object.__class__"))
  hn : PySem.W.specialIn K (.builtin "object.__class__") "__get__" = some (some (.builtin "getset_descriptor.__get__"))
  htk : PySem.W.takesIn K (.builtin "object.__class__") = some true
  hm : PySem.W.mroIn K C (.type "object") = some true
/-- isinstance's answers, by the types -/
def bIs : String → Ty → Bool
  | "int", .int => true
  | "bool", .int => true
  | "bool", .bool => true
  | "str", .str => true
  | "list", .list => true
  | "tuple", .tuple => true
  | _, _ => false
structure TyF (tb : Tb) (K : PySem.W.Frag) (ca : Nat → Addr) : Prop where
  b : ∀ (n : String) (t : Ty), n ∈ ["NoneType", "bool", "int", "str", "list", "tuple"] → PySem.W.kitOne K (.type n) (tyVal ca t) = some (bIs n t)
  c : ∀ (c : Nat) (t : Ty), PySem.W.kitOne K (.ref (ca c)) (tyVal ca t) = some (match t with | .cls t => tb.sub c t | _ => false)
theorem tyX_of {tb : Tb} {C : RC} {ι : List Addr} {M : Addr → Prop} {H : Hp} {v : V} {d : D} {t : Ty} {b : Bool} (fc : ∀ c, ClsF C.K (C.ca c)) (ft : TyF tb C.K C.ca) (r : VRep C ι M H v d) (e : isD tb d t = some b) :
    ∃ tv, TyX C.K H v tv ∧ PySem.W.kitOne C.K tv (tyVal C.ca t) = some b := by
  cases r with
  | non => exact ⟨_, .base .non, by rw [ft.b _ t (by decide)]; cases t <;> cases e <;> rfl⟩
  | bl y => exact ⟨_, .base (.bl y), by rw [ft.b _ t (by decide)]; cases t <;> cases e <;> rfl⟩
  | int i => exact ⟨_, .base (.int i), by rw [ft.b _ t (by decide)]; cases t <;> cases e <;> rfl⟩
  | str x => exact ⟨_, .base (.str x), by rw [ft.b _ t (by decide)]; cases t <;> cases e <;> rfl⟩
  | @tup a vs ds h r =>
    refine ⟨.type "tuple", ?_, by rw [ft.b _ t (by decide)]; cases t <;> cases e <;> rfl⟩
    rcases h with ⟨_, o, h, _⟩ | ⟨o, its, n, h1, _, h2, h3, h4, h5⟩
    · exact .fTuple h
    · exact .kTuple h1 h2
  | lst h r => exact ⟨.type "list", .base (.lst h), by rw [ft.b _ t (by decide)]; cases t <;> cases e <;> rfl⟩
  | scr h r => cases t <;> cases e
  | dctK h r => cases t <;> cases e
  | dctT h r => cases t <;> cases e
  | dctG h r => cases t <;> cases e
  | @ins a c dx vfs fs h r =>
    have f := fc c
    refine ⟨_, .base (.ins h f.cl f.ha f.hn f.htk f.hm), ?_⟩
    rw [ft.c c t]
    cases t <;> cases e <;> rfl
theorem tyV_cls (ca : Nat → Addr) (t : Ty) : ClsV (tyV ca t) (tyVal ca t) := by cases t <;> constructor
theorem tyV_rel (ca : Nat → Addr) (t : Ty) : RelV (tyV ca t) (tyVal ca t) := by cases t <;> rfl
end MP

set_option maxRecDepth 100000
set_option maxHeartbeats 1000000
/-! MP10: calls: what passes between a caller's scene and a callee's. -/
namespace MP
open PySem PySem.Spec PyProof.Rows L2

/-- the shared part of a scene -/
structure Scn (C : RC) (ι : List Addr) (M : Addr → Prop) (h : MH) (H : Hp) : Prop where
  known : Known M H
  sub : ∀ a, a ∈ ι → M a
  hl : ι.length = h.length
  hd : ι.Nodup
  hp : ∀ (n : Nat) (d : D), h[n]? = some d → ∃ a, ι[n]? = some a ∧ ContAt C ι M H a d
/-- behind a call -/
structure Aft (C : RC) (ι : List Addr) (M : Addr → Prop) (H : Hp) (ι' : List Addr) (h' : MH) (H' : Hp) : Prop where
  scn : Scn C ι' (fun a => M a ∨ a ∈ ι') h' H'
  go : Go ι M H ι' (fun a => M a ∨ a ∈ ι') H'
  kept : ∀ b o, H b = some o → b ∉ ι → H' b = some o
/-- a result that nothing else knows -/
def NewAt (C : RC) (ι' : List Addr) (M : Addr → Prop) (H : Hp) (h' : MH) (H' : Hp) (v : V) (d : D) : Prop := ∃ p, v = .ref p ∧ H p = none ∧ p ∉ ι' ∧
  (∀ (n : Nat) (d : D), h'[n]? = some d → ∃ a, ι'[n]? = some a ∧ ContAt C ι' (fun a => (M a ∨ a ∈ ι') ∨ a = p) H' a d) ∧ ContAt C ι' (fun a => (M a ∨ a ∈ ι') ∨ a = p) H' p d
/-- what a def promises: run is what it computes -/
def spF (C : RC) (np : Nat) (fr : Bool) (run : List D → MH → R D) : Sp := fun vs H Q _ => vs.length = np ∧ ∃ ι M ds h d h', Scn C ι M h H ∧ Reps C ι M H vs ds ∧ run ds h = .ok d h' ∧
  ∀ ι' H' v, Aft C ι M H ι' h' H' → (fr = false → Rep C ι' (fun a => M a ∨ a ∈ ι') H' v d) → (fr = true → NewAt C ι' M H h' H' v d) → Q v H'
theorem Go.plus {ι ι' : List Addr} {M M' : Addr → Prop} {H H' : Hp} {p : Addr} (g : Go ι M H ι' M' H') (hp : H p = none) : Go ι M H ι' (fun a => M' a ∨ a = p) H' :=
  ⟨g.pre, g.kept, fun a o e m => m.elim (g.new a o e) fun z => (by subst z; rw [hp] at e; cases e), g.nw, g.live⟩

section
variable {S : SC} {ι ι' : List Addr} {e : Ev} {h h' : MH} {σ : L2.St} {H H' : Hp}
theorem Rel.known (R : Rel S ι e h σ H) : Known (Mu S.M0 ι e σ) H := fun _ m => R.there m
theorem Rel.scn (R : Rel S ι e h σ H) : Scn S.C ι (Mu S.M0 ι e σ) h H := ⟨R.known, fun a m => .inr (.inl m), R.hl, R.hd, R.hp⟩
theorem mem_pre {ι ι' : List Addr} (p : ∀ (n : Nat) (a : Addr), ι[n]? = some a → ι'[n]? = some a) {a : Addr} (m : a ∈ ι) : a ∈ ι' := by
  obtain ⟨n, hn, rfl⟩ := List.mem_iff_getElem.mp m
  exact List.mem_of_getElem? (p n _ (List.getElem?_eq_getElem hn))
/-- the caller's scene goes on -/
theorem Aft.mu (A : Aft S.C ι (Mu S.M0 ι e σ) H ι' h' H') : Go ι (Mu S.M0 ι e σ) H ι' (Mu S.M0 ι' e σ) H' :=
  A.go.swap fun a m => by
    rcases m with m | m | m
    · exact .inl (.inl m)
    · exact .inr m
    · exact .inl (.inr (.inr m))
theorem Aft.less (A : Aft S.C ι (Mu S.M0 ι e σ) H ι' h' H') : Go ι' (fun a => Mu S.M0 ι e σ a ∨ a ∈ ι') H' ι' (Mu S.M0 ι' e σ) H' := .less fun a m => by
  rcases m with m | m | m
  · exact .inl (.inl m)
  · exact .inr m
  · exact .inl (.inr (.inr m))
theorem Aft.rel (R : Rel S ι e h σ H) (A : Aft S.C ι (Mu S.M0 ι e σ) H ι' h' H') : Rel S ι' e h' σ H' where
  len := R.len
  val := fun i d q => let ⟨v, h1, h2⟩ := R.val i d q; ⟨v, h1, h2.go A.mu⟩
  own := fun i d q => by
    obtain ⟨a, h1, h2, h3, h4⟩ := R.own i d q
    obtain ⟨o, ho⟩ := h4.some
    refine ⟨a, h1, h2, fun m => ?_, h4.go A.mu fun o ho => A.kept a o ho h3⟩
    rcases A.go.nw a m with z | z
    · exact h3 z
    · rw [ho] at z; cases z
  dist := R.dist
  hl := A.scn.hl
  hd := A.scn.hd
  hp := fun n d q => let ⟨a, h1, h2⟩ := A.scn.hp n d q; ⟨a, h1, h2.go A.less fun _ z => z⟩
  kept := fun b o h1 h2 => A.kept b o (R.kept b o h1 h2) fun m => by
    rcases R.fresh b m with z | z
    · exact h2 z
    · rw [h1] at z; cases z
  fresh := fun b m => by
    rcases A.go.nw b m with z | z
    · exact R.fresh b z
    · by_cases hb : b ∈ S.i0
      · exact .inl hb
      · refine .inr ?_
        cases q : S.H0 b with
        | none => rfl
        | some o => rw [R.kept b o q hb] at z; cases z
  pre := fun n a q => A.go.pre n a (R.pre n a q)
  mz := fun a m => A.scn.known a (.inl (.inl m))

/-- a callee's first scene -/
theorem startE_get {ns : Nat} {ds : List D} {i : Nat} {s : Slot} (q : (startE ns ds)[i]? = some s) : (∃ d, ds[i]? = some d ∧ s = .val d) ∨ s = .no := by
  unfold startE at q
  by_cases hi : i < ds.length
  · rw [List.getElem?_append_left (by simpa using hi), List.getElem?_map] at q
    cases e : ds[i]? with
    | none => rw [e] at q; cases q
    | some d => rw [e] at q; cases q; exact .inl ⟨d, rfl, rfl⟩
  · rw [List.getElem?_append_right (by simpa using Nat.le_of_not_lt hi)] at q
    rw [List.getElem?_replicate] at q
    split at q
    · cases q; exact .inr rfl
    · cases q
theorem start_get {N : List Str} {vs : List V} {i : Nat} {v : V} (q : vs[i]? = some v) : (L2.start N vs)[i]? = some (some v) := by
  have hi : i < vs.length := by
    by_cases z : i < vs.length
    · exact z
    · rw [List.getElem?_eq_none (by omega)] at q; cases q
  unfold L2.start
  rw [List.getElem?_append_left (by simpa using hi), List.getElem?_map, q]
  rfl
theorem Scn.rel {C : RC} {M : Addr → Prop} {N : List Str} {vs : List V} {ds : List D} (A : Scn C ι M h H) (r : Reps C ι M H vs ds) (hz : vs.length ≤ N.length) :
    Rel ⟨C, H, M, ι⟩ ι (startE N.length ds) h (L2.start N vs) H := by
  have hl := r.length
  have mu : ∀ a, Mu M ι (startE N.length ds) (L2.start N vs) a → M a := fun a m => by
    rcases m with m | m | ⟨i, ⟨d, q⟩, _⟩
    · exact m
    · exact A.sub a m
    · rcases startE_get q with ⟨_, _, z⟩ | z <;> cases z
  refine ⟨?_, fun i d q => ?_, fun i d q => ?_, fun i j a p _ => ?_, A.hl, A.hd, fun n d q => ?_, fun b o q _ => q, fun b m => .inl m, fun n a q => q, fun a m => A.known a m⟩
  · unfold startE L2.start
    simp only [List.length_append, List.length_map, List.length_replicate]
    omega
  · rcases startE_get q with ⟨d', h1, z⟩ | z
    · cases z
      obtain ⟨v, h2, h3⟩ := r.get h1
      exact ⟨v, start_get h2, h3.go (.less mu)⟩
    · cases z
  · rcases startE_get q with ⟨_, _, z⟩ | z <;> cases z
  · obtain ⟨⟨d, q⟩, _⟩ := p
    rcases startE_get q with ⟨_, _, z⟩ | z <;> cases z
  · obtain ⟨a, h1, h2⟩ := A.hp n d q
    exact ⟨a, h1, h2.go (.less mu) fun _ z => z⟩
/-- a callee's end -/
theorem Rel.aft (R : Rel S ι e h σ H) (G : Go S.i0 S.M0 S.H0 ι (Mu S.M0 ι e σ) H) (sub : ∀ a, a ∈ S.i0 → S.M0 a) : Aft S.C S.i0 S.M0 S.H0 ι h H := by
  have mu : ∀ a, (S.M0 a ∨ a ∈ ι) → Mu S.M0 ι e σ a := fun a m => m.elim .inl fun z => .inr (.inl z)
  refine ⟨⟨fun a m => R.there (mu a m), fun a m => .inr m, R.hl, R.hd, fun n d q => ?_⟩, G.swap mu, R.kept⟩
  obtain ⟨a, h1, h2⟩ := R.hp n d q
  exact ⟨a, h1, h2.go (.less mu) fun _ z => z⟩
end
end MP

set_option maxRecDepth 100000
set_option maxHeartbeats 1000000
/-! MP10b: new lists and dicts that nothing else knows; locks. -/
namespace MP
open PySem PySem.Spec PyProof.Rows L2

def SD (S : SC) (D : Addr) (o : HO) : SC := { S with H0 := upd S.H0 D o, M0 := fun a => S.M0 a ∨ a = D }
section
variable {S : SC} {ι ι1 ι' : List Addr} {e : Ev} {h h' h1 : MH} {σ : L2.St} {H H1 H' : Hp} {D : Addr} {o o' : HO}
theorem SD.mu {a : Addr} : Mu (SD S D o).M0 ι e σ a ↔ Mu S.M0 ι e σ a ∨ a = D := by
  unfold Mu SD
  constructor
  · rintro ((m | m) | m | m)
    · exact .inl (.inl m)
    · exact .inr m
    · exact .inl (.inr (.inl m))
    · exact .inl (.inr (.inr m))
  · rintro ((m | m | m) | m)
    · exact .inl (.inl m)
    · exact .inr (.inl m)
    · exact .inr (.inr m)
    · exact .inl (.inr m)
theorem SD.go0 (hD : H D = none) : Go ι (Mu S.M0 ι e σ) H ι (Mu (SD S D o).M0 ι e σ) (upd H D o) :=
  ⟨fun _ _ q => q, fun a u q _ => same_laid hD a u q, fun a u q m => (SD.mu.mp m).elim (fun z => z) fun z => (by subst z; rw [hD] at q; cases q), fun _ z => .inl z, fun a u q => ⟨u, same_laid hD a u q⟩⟩
theorem Rel.notin (rl : Rel S ι e h σ H) (hD : H D = none) : D ∉ ι := fun z => by
  obtain ⟨o, q⟩ := rl.there (.inr (.inl z)); rw [hD] at q; cases q
theorem Rel.noti0 (rl : Rel S ι e h σ H) (hD : H D = none) : D ∉ S.i0 := fun z => rl.notin hD (mem_pre rl.pre z)
theorem SD.start (rl : Rel S ι e h σ H) (hD : H D = none) : Rel (SD S D o) ι e h σ (upd H D o) := by
  have g0 := SD.go0 (S := S) (e := e) (σ := σ) (ι := ι) (o := o) hD
  have ne : ∀ {a : Addr} {u : HO}, H a = some u → a ≠ D := fun q z => by subst z; rw [hD] at q; cases q
  refine ⟨rl.len, fun i d q => ?_, fun i d q => ?_, rl.dist, rl.hl, rl.hd, fun n d q => ?_, fun b u q z => ?_, fun b z => ?_, rl.pre, fun a m => ?_⟩
  · obtain ⟨v, q1, q2⟩ := rl.val i d q
    exact ⟨v, q1, q2.go g0⟩
  · obtain ⟨a, q1, q2, q3, q4⟩ := rl.own i d q
    obtain ⟨u, hu⟩ := q4.some
    refine ⟨a, q1, ?_, q3, q4.go g0 fun u q => same_laid hD a u q⟩
    show upd S.H0 D o a = none
    rw [upd_ne (ne hu)]; exact q2
  · obtain ⟨a, q1, q2⟩ := rl.hp n d q
    exact ⟨a, q1, q2.go g0 fun u q => same_laid hD a u q⟩
  · have q' : upd S.H0 D o b = some u := q
    by_cases hb : b = D
    · subst hb; rw [upd_same] at q' ⊢; exact q'
    · rw [upd_ne hb] at q' ⊢; exact rl.kept b u q' z
  · rcases rl.fresh b z with w | w
    · exact .inl w
    · refine .inr ?_
      show upd S.H0 D o b = none
      rw [upd_ne (fun y => rl.notin hD (by rw [← y]; exact z))]; exact w
  · rcases m with m | m
    · obtain ⟨u, q⟩ := rl.mz a m; exact ⟨u, same_laid hD a u q⟩
    · subst m; exact ⟨_, upd_same⟩
theorem SD.write (rl : Rel (SD S D o) ι e h σ H) (hi : D ∉ ι) : Rel (SD S D o') ι e h σ (upd H D o') := by
  have hm : Mu (SD S D o).M0 ι e σ D := .inl (.inr rfl)
  have g : Go ι (Mu (SD S D o).M0 ι e σ) H ι (Mu (SD S D o').M0 ι e σ) (upd H D o') := Go.write hm
  refine ⟨rl.len, fun i d q => ?_, fun i d q => ?_, rl.dist, rl.hl, rl.hd, fun n d q => ?_, fun b u q z => ?_, fun b z => ?_, rl.pre, fun a m => ?_⟩
  · obtain ⟨v, q1, q2⟩ := rl.val i d q
    exact ⟨v, q1, q2.go g⟩
  · obtain ⟨a, q1, q2, q3, q4⟩ := rl.own i d q
    have ha : a ≠ D := fun z => by
      subst z
      have q2' : upd S.H0 a o a = none := q2
      rw [upd_same] at q2'; cases q2'
    refine ⟨a, q1, ?_, q3, q4.go g fun u q => by rw [upd_ne ha]; exact q⟩
    have q2' : upd S.H0 D o a = none := q2
    show upd S.H0 D o' a = none
    rw [upd_ne ha] at q2' ⊢; exact q2'
  · obtain ⟨a, q1, q2⟩ := rl.hp n d q
    have ha : a ≠ D := fun z => hi (z ▸ List.mem_of_getElem? q1)
    exact ⟨a, q1, q2.go g fun u q => by rw [upd_ne ha]; exact q⟩
  · have q' : upd S.H0 D o' b = some u := q
    by_cases hb : b = D
    · subst hb; rw [upd_same] at q' ⊢; exact q'
    · rw [upd_ne hb] at q' ⊢
      exact rl.kept b u (by show upd S.H0 D o b = some u; rw [upd_ne hb]; exact q') z
  · rcases rl.fresh b z with w | w
    · exact .inl w
    · refine .inr ?_
      have hb : b ≠ D := fun y => hi (y ▸ z)
      have w' : upd S.H0 D o b = none := w
      show upd S.H0 D o' b = none
      rw [upd_ne hb] at w' ⊢; exact w'
  · obtain ⟨u, q⟩ := rl.mz a m
    by_cases ha : a = D
    · subst ha; exact ⟨_, upd_same⟩
    · exact ⟨u, by rw [upd_ne ha]; exact q⟩
theorem SD.done (rl1 : Rel S ι1 e h1 σ H1) (hD : H1 D = none) (rl : Rel (SD S D o) ι' e h' σ H') : Rel S ι' e h' σ H' := by
  have nD : S.H0 D = none := by
    cases q : S.H0 D with
    | none => rfl
    | some u => have := rl1.kept D u q (rl1.noti0 hD); rw [hD] at this; cases this
  have g : Go ι' (Mu (SD S D o).M0 ι' e σ) H' ι' (Mu S.M0 ι' e σ) H' := .less fun a m => SD.mu.mpr (.inl m)
  refine ⟨rl.len, fun i d q => ?_, fun i d q => ?_, rl.dist, rl.hl, rl.hd, fun n d q => ?_, fun b u q z => ?_, fun b z => ?_, rl.pre, fun a m => rl.mz a (.inl m)⟩
  · obtain ⟨v, q1, q2⟩ := rl.val i d q
    exact ⟨v, q1, q2.go g⟩
  · obtain ⟨a, q1, q2, q3, q4⟩ := rl.own i d q
    have q2' : upd S.H0 D o a = none := q2
    have ha : a ≠ D := fun z => by
      subst z
      rw [upd_same] at q2'; cases q2'
    rw [upd_ne ha] at q2'
    exact ⟨a, q1, q2', q3, q4.go g fun _ z => z⟩
  · obtain ⟨a, q1, q2⟩ := rl.hp n d q
    exact ⟨a, q1, q2.go g fun _ z => z⟩
  · have hb : b ≠ D := fun y => by subst y; rw [nD] at q; cases q
    exact rl.kept b u (by show upd S.H0 D o b = some u; rw [upd_ne hb]; exact q) z
  · rcases rl.fresh b z with w | w
    · exact .inl w
    · by_cases hb : b = D
      · subst hb; exact .inr nD
      · have w' : upd S.H0 D o b = none := w
        rw [upd_ne hb] at w'
        exact .inr w'
end

theorem Go.back {ι ι' : List Addr} {M M' : Addr → Prop} {H H' : Hp} {p : Addr} (g : Go ι M H ι' M' H') (hp : H' p = none) : H p = none := by
  cases q : H p with
  | none => rfl
  | some o => obtain ⟨o', q'⟩ := g.live p o q; rw [hp] at q'; cases q'
/-! ### a new object that nothing else knows -/
def SP1 (S : SC) (p : Addr) : SC := { S with M0 := fun a => S.M0 a ∨ a = p }
section
variable {S : SC} {ι ι1 ι' : List Addr} {e : Ev} {h h' h1 : MH} {σ : L2.St} {H H1 H' : Hp} {D p : Addr} {o o' : HO} {d : MP.D}
theorem SP1.mu {a : Addr} : Mu (SP1 S p).M0 ι e σ a ↔ Mu S.M0 ι e σ a ∨ a = p := SD.mu (o := .lst [])
theorem SP1.less : Go ι (Mu (SP1 S p).M0 ι e σ) H ι (Mu S.M0 ι e σ) H := .less fun a m => SP1.mu.mpr (.inl m)
theorem Rel.drop (rl : Rel (SP1 S p) ι e h σ H) : Rel S ι e h σ H := by
  have g : Go ι (Mu (SP1 S p).M0 ι e σ) H ι (Mu S.M0 ι e σ) H := SP1.less
  refine ⟨rl.len, fun i d q => ?_, fun i d q => ?_, rl.dist, rl.hl, rl.hd, fun n d q => ?_, rl.kept, rl.fresh, rl.pre, fun a m => rl.mz a (.inl m)⟩
  · obtain ⟨v, q1, q2⟩ := rl.val i d q
    exact ⟨v, q1, q2.go g⟩
  · obtain ⟨a, q1, q2, q3, q4⟩ := rl.own i d q
    exact ⟨a, q1, q2, q3, q4.go g fun _ z => z⟩
  · obtain ⟨a, q1, q2⟩ := rl.hp n d q
    exact ⟨a, q1, q2.go g fun _ z => z⟩
theorem Rel.noOwnP (rl : Rel S ι e h σ H) (hp : H p = none) (i : Nat) : ¬ OwnAt e σ i p := fun ⟨⟨d, q1⟩, q2⟩ => by
  obtain ⟨a, q3, _, _, q4⟩ := rl.own i d q1
  rw [q2] at q3; cases q3
  obtain ⟨u, q⟩ := q4.some
  rw [hp] at q; cases q
theorem Rel.h0P (rl : Rel S ι e h σ H) (hp : H p = none) : S.H0 p = none := by
  cases q : S.H0 p with
  | none => rfl
  | some u => have := rl.kept p u q (rl.noti0 hp); rw [hp] at this; cases this
/-- what is new is not among what may change -/
theorem Rel.notMu (rl0 : Rel S ι1 e h1 σ H1) (hp : H1 p = none) (ni : p ∉ ι) : ¬ Mu S.M0 ι e σ p := fun m => by
  rcases m with m | m | ⟨k, m⟩
  · obtain ⟨u, q⟩ := rl0.mz p m; rw [hp] at q; cases q
  · exact ni m
  · exact rl0.noOwnP hp k m
theorem Rel.plusNew (rl : Rel S ι e h σ H) (hp : H p = none) : Rel (SP1 S p) ι e h σ (upd H p o) := by
  have g : Go ι (Mu S.M0 ι e σ) H ι (Mu (SP1 S p).M0 ι e σ) (upd H p o) := SD.go0 (o := o) hp
  refine ⟨rl.len, fun i d q => ?_, fun i d q => ?_, rl.dist, rl.hl, rl.hd, fun n d q => ?_, fun b u q z => same_laid hp b u (rl.kept b u q z), rl.fresh, rl.pre, fun a m => ?_⟩
  · obtain ⟨v, q1, q2⟩ := rl.val i d q
    exact ⟨v, q1, q2.go g⟩
  · obtain ⟨a, q1, q2, q3, q4⟩ := rl.own i d q
    exact ⟨a, q1, q2, q3, q4.go g fun u q => same_laid hp a u q⟩
  · obtain ⟨a, q1, q2⟩ := rl.hp n d q
    exact ⟨a, q1, q2.go g fun u q => same_laid hp a u q⟩
  · rcases m with m | m
    · obtain ⟨u, q⟩ := rl.mz a m; exact ⟨u, same_laid hp a u q⟩
    · subst m; exact ⟨_, upd_same⟩
theorem goNew (hp : H p = none) : Go ι (Mu S.M0 ι e σ) H ι (Mu (SP1 S p).M0 ι e σ) (upd H p o) := SD.go0 (o := o) hp
/-- .. it is written -/
theorem Rel.writeP (rl0 : Rel S ι1 e h1 σ H1) (hp : H1 p = none) (rl : Rel (SP1 S p) ι e h σ H) (ni : p ∉ ι) : Rel (SP1 S p) ι e h σ (upd H p o) := by
  have g : Go ι (Mu (SP1 S p).M0 ι e σ) H ι (Mu (SP1 S p).M0 ι e σ) (upd H p o) := Go.write (SP1.mu.mpr (.inr rfl))
  refine ⟨rl.len, fun i d q => ?_, fun i d q => ?_, rl.dist, rl.hl, rl.hd, fun n d q => ?_, fun b u q z => ?_, rl.fresh, rl.pre, fun a m => ?_⟩
  · obtain ⟨v, q1, q2⟩ := rl.val i d q
    exact ⟨v, q1, q2.go g⟩
  · obtain ⟨a, q1, q2, q3, q4⟩ := rl.own i d q
    have ha : a ≠ p := fun z => rl0.noOwnP hp i ⟨⟨d, q⟩, by rw [← z]; exact q1⟩
    exact ⟨a, q1, q2, q3, q4.go g fun u q => by rw [upd_ne ha]; exact q⟩
  · obtain ⟨a, q1, q2⟩ := rl.hp n d q
    have ha : a ≠ p := fun z => ni (z ▸ List.mem_of_getElem? q1)
    exact ⟨a, q1, q2.go g fun u q => by rw [upd_ne ha]; exact q⟩
  · have hb : b ≠ p := fun z => by
      subst z
      have q' : S.H0 b = some u := q
      rw [rl0.h0P hp] at q'; cases q'
    rw [upd_ne hb]; exact rl.kept b u q z
  · obtain ⟨u, q⟩ := rl.mz a m
    by_cases ha : a = p
    · subst ha; exact ⟨_, upd_same⟩
    · exact ⟨u, by rw [upd_ne ha]; exact q⟩
/-- from a scene in which it was in the making -/
theorem SD.toP (rl1 : Rel S ι1 e h1 σ H1) (hD : H1 D = none) (rl : Rel (SD S D o) ι' e h' σ H') : Rel (SP1 S D) ι' e h' σ H' := by
  have r := SD.done rl1 hD rl
  refine ⟨rl.len, rl.val, fun i d q => ?_, rl.dist, rl.hl, rl.hd, rl.hp, r.kept, r.fresh, r.pre, rl.mz⟩
  obtain ⟨a, q1, q2, q3, _⟩ := r.own i d q
  obtain ⟨a', p1, _, _, p4⟩ := rl.own i d q
  rw [q1] at p1
  cases p1
  exact ⟨a, q1, q2, q3, p4⟩
def OutF (S : SC) (e : Ev) (σ : L2.St) (r : R MP.D) (ι : List Addr) (H : Hp) (Q : VK) : Prop :=
  ∃ d h', r = .ok d h' ∧ ∀ ι' H' p, H p = none → p ∉ ι' → Go ι (Mu S.M0 ι e σ) H ι' (Mu (SP1 S p).M0 ι' e σ) H' → Rel (SP1 S p) ι' e h' σ H' → ContAt S.C ι' (Mu (SP1 S p).M0 ι' e σ) H' p d → Q (.ref p) H'
def tF (tb : Tb) (Φ : Nat → List MP.D → MH → R MP.D) (S : SC) (m : M) : TE := fun σ H Q => ∃ ι e h, Rel S ι e h σ H ∧ OutF S e σ (ev tb Φ m e h) ι H Q
end

/-- a call's new result -/
theorem Aft.newP {S : SC} {ι ι' : List Addr} {e : Ev} {h h' : MH} {σ : L2.St} {H H' : Hp} {v : V} {d : MP.D} (rl : Rel S ι e h σ H) (A : Aft S.C ι (Mu S.M0 ι e σ) H ι' h' H') (nw : NewAt S.C ι' (Mu S.M0 ι e σ) H h' H' v d) :
    ∃ p, v = .ref p ∧ H p = none ∧ p ∉ ι' ∧ Go ι (Mu S.M0 ι e σ) H ι' (Mu (SP1 S p).M0 ι' e σ) H' ∧ Rel (SP1 S p) ι' e h' σ H' ∧ ContAt S.C ι' (Mu (SP1 S p).M0 ι' e σ) H' p d := by
  obtain ⟨p, rfl, hp, ni, nh, c⟩ := nw
  have sub : ∀ a, Mu (SP1 S p).M0 ι' e σ a → ((Mu S.M0 ι e σ a ∨ a ∈ ι') ∨ a = p) := fun a m => by
    rcases SP1.mu.mp m with m | m
    · rcases m with m | m | m
      · exact .inl (.inl (.inl m))
      · exact .inl (.inr m)
      · exact .inl (.inl (.inr (.inr m)))
    · exact .inr m
  have g : Go ι (Mu S.M0 ι e σ) H ι' (Mu (SP1 S p).M0 ι' e σ) H' := (A.go.plus hp).swap sub
  have gl : Go ι' (fun a => (Mu S.M0 ι e σ a ∨ a ∈ ι') ∨ a = p) H' ι' (Mu (SP1 S p).M0 ι' e σ) H' := .less sub
  have r := A.rel rl
  refine ⟨p, rfl, hp, ni, g, ⟨r.len, fun i d q => ?_, fun i d q => ?_, r.dist, r.hl, r.hd, fun n d q => ?_, r.kept, r.fresh, r.pre, fun a m => ?_⟩, c.go gl fun _ z => z⟩
  · obtain ⟨v, q1, q2⟩ := rl.val i d q
    exact ⟨v, q1, q2.go g⟩
  · obtain ⟨a, q1, q2, q3, q4⟩ := rl.own i d q
    obtain ⟨a', p1, _, p3, _⟩ := r.own i d q
    rw [q1] at p1
    cases p1
    exact ⟨a, q1, q2, p3, q4.go g fun o ho => A.kept a o ho q3⟩
  · obtain ⟨a, q1, q2⟩ := nh n d q
    exact ⟨a, q1, q2.go gl fun _ z => z⟩
  · rcases m with m | m
    · exact r.mz a m
    · subst m; exact c.some

/-! ### locks -/
inductive LockQ (R : Hp → Prop) : Hp → Prop
  | done {H : Hp} : R H → LockQ R H
  | lock {H : Hp} {a : Addr} {u : HO} : H a = some u → Mut (some u) → (∀ o, LockQ R (upd H a (.frz o u))) → LockQ R H
theorem LockQ.run {X : Cx} {pins : List (Addr × Obj)} {σ : L2.St} {s : Shared} {R : Hp → Prop} : ∀ {H : Hp}, LockQ R H → Inv X pins σ H s → ∃ H', Inv X pins σ H' s ∧ R H' := by
  intro H h
  induction h with
  | done r => exact fun I => ⟨_, I, r⟩
  | lock e mu _ ih =>
    intro I
    obtain ⟨o, I'⟩ := I.lock e mu
    exact ih o I'
theorem LockQ.imp {R R' : Hp → Prop} {H : Hp} (h : LockQ R H) (i : ∀ H, R H → R' H) : LockQ R' H := by
  induction h with
  | done r => exact .done (i _ r)
  | lock e mu _ ih => exact .lock e mu ih
theorem PE.imp {X : Cx} {e : Expr} {t t' : TE} (h : PE X e t) (i : ∀ σ H Q, t' σ H Q → t σ H Q) : PE X e t' := ⟨fun pins s σ H Q I q => h.run pins s σ H Q I (i σ H Q q)⟩
theorem PE.lock {X : Cx} {e : Expr} {t : TE} (h : PE X e t) : PE X e (fun σ H Q => t σ H fun v H1 => LockQ (Q v) H1) := ⟨fun pins s σ H Q I q =>
  thn (h.run pins s σ H _ I q) fun u s1 ⟨v, H1, I1, r, l⟩ => by
    obtain ⟨H2, I2, q2⟩ := l.run I1
    exact ⟨v, H2, I2, r, q2⟩⟩
theorem PSs.lock {X : Cx} {st : List Stmt} {t : TS} (h : PSs X st t) : PSs X st (fun D σ H => LockQ (fun H1 => t D σ H1) H) := ⟨fun pins s σ H D I l => by
  obtain ⟨H2, I2, q2⟩ := l.run I
  exact h.run pins s σ H2 D I2 q2⟩
section
variable {S : SC} {ι ι1 ι' : List Addr} {e : Ev} {h h' h1 : MH} {σ : L2.St} {H H1 H' : Hp} {p : Addr} {d : MP.D}
/-- a new object becomes a value -/
theorem F_rep {R : Hp → Prop} (rl0 : Rel S ι e h σ H) (hp : H p = none) (ni : p ∉ ι') (g : Go ι (Mu S.M0 ι e σ) H ι' (Mu (SP1 S p).M0 ι' e σ) H') (rl : Rel (SP1 S p) ι' e h' σ H') (c : ContAt S.C ι' (Mu (SP1 S p).M0 ι' e σ) H' p d)
    (K : ∀ H2, Go ι (Mu S.M0 ι e σ) H ι' (Mu S.M0 ι' e σ) H2 → Rel S ι' e h' σ H2 → Rep S.C ι' (Mu S.M0 ι' e σ) H2 (.ref p) d → R H2) : LockQ R H' := by
  have nm := rl0.notMu hp ni
  have lk : ∀ {u : HO}, (∀ o, Rep S.C ι' (Mu S.M0 ι' e σ) (upd H' p (.frz o u)) (.ref p) d) → H' p = some u → Mut (some u) → LockQ R H' := fun {u} rp q mu => .lock q mu fun o => .done (by
    have gw : Go ι' (Mu (SP1 S p).M0 ι' e σ) H' ι' (Mu (SP1 S p).M0 ι' e σ) (upd H' p (.frz o u)) := Go.write (SP1.mu.mpr (.inr rfl))
    exact K _ ((g.trans gw).trans SP1.less) (rl0.writeP hp rl ni).drop (rp o))
  have gw : ∀ {o : HO}, Go ι' (Mu (SP1 S p).M0 ι' e σ) H' ι' (Mu S.M0 ι' e σ) (upd H' p o) := (Go.write (SP1.mu.mpr (.inr rfl))).trans SP1.less
  cases c with
  | lst q r => exact .done (K _ (g.trans SP1.less) rl.drop (.lst nm q (r.go SP1.less)))
  | ins q r => exact .done (K _ (g.trans SP1.less) rl.drop (.ins nm q (r.go SP1.less)))
  | dctK q r => exact lk (fun o => .dctK nm upd_same (r.go gw)) q True.intro
  | dctT q r => exact lk (fun o => .dctT nm upd_same (r.go gw)) q True.intro
theorem PE.ofF {tb : Tb} {Φ : Nat → List MP.D → MH → R MP.D} {X : Cx} {ex : Expr} {m : M} (h : PE X ex (tF tb Φ S m)) : PE X ex (tE tb Φ S m) :=
  PE.imp (PE.lock h) fun σ H Q ⟨ι, e, h, rl, d, h', eq, K⟩ => ⟨ι, e, h, rl, d, h', eq, fun ι' H' p hp ni g rl' c => F_rep rl hp ni g rl' c fun H2 g2 rl2 r2 => K ι' H2 _ g2 rl2 r2⟩
end
end MP

set_option maxRecDepth 100000
set_option maxHeartbeats 1000000
/-! MP11: the checker: a MiniPy text is the row's own text. -/
namespace MP
open PySem PySem.Spec PyProof.Rows L2

/-- where a text's defs, classes and constants stand, and how they are named -/
structure Tx where
  ca : Nat → Addr
  fa : Nat → Addr
  fdat : Nat → FuncData
  fps : Nat → List Str
  /-- hands back a new list or dict -/
  frs : Nat → Bool
  fnN : Nat → Option Str
  clN : Nat → Option Str
  glN : Nat → Option Str
  free : Str → Bool

def dbgOk (y : Str) : Bool := !(y == ("__debug__" : Str)) && !(y == ("__classdict__" : Str))
def visB (sc : Scope) (y : Str) : Bool := match sc.names.lookup y with
  | some .local => true
  | some .cell => true
  | some .free => true
  | _ => false
def locB (sc : Scope) (y : Str) : Bool := match sc.names.lookup y with
  | some .local => true
  | some .cell => true
  | _ => false
def glB (sc : Scope) (y : Str) : Bool := match sc.names.lookup y with
  | some .globalImplicit => true
  | _ => false
/-- nothing that is told apart by its place -/
def plainA : Expr → Bool
  | .Starred .. => false
  | .Slice .. => false
  | .Set .. => false
  | _ => true
def testP : Expr → Bool
  | .UnaryOp .. => false
  | .BoolOp .. => false
  | .IfExp .. => false
  | .Compare .. => false
  | _ => true
def baseP : Expr → Bool
  | .Call _ [] _ _ => false
  | _ => true
def isC : Const → D → Bool
  | .none, .non => true
  | .bool b, .bl c => b == c
  | .int i, .int j => decide (i = j)
  | .str x, .str y => decide (x = y)
  | _, _ => false
def bltN : Blt → Str
  | .len => "len" | .int => "int" | .list => "list" | .tuple => "tuple" | .abs => "abs" | .max => "max" | .min => "min"
  | .str => "str" | .bool => "bool" | .dict => "dict" | .all => "all"
def tyN (x : Tx) : Ty → Option Str
  | .int => some "int" | .str => some "str" | .bool => some "bool" | .list => some "list" | .tuple => some "tuple" | .cls c => x.clN c
def tyFree (x : Tx) : Ty → Bool
  | .int => x.free "int" | .str => x.free "str" | .bool => x.free "bool" | .list => x.free "list" | .tuple => x.free "tuple" | .cls _ => true
def glo1 (x : Tx) (sc : Scope) (y n : Str) : Bool := decide (y = n) && glB sc y && x.free n
/-- the names of a pattern, assignable -/
def chkNms (N : List Str) (sc : Scope) : List Nat → List Expr → Bool
  | [], [] => true
  | i :: r, .Name y _ :: es => decide (N[i]? = some y) && locB sc y && chkNms N sc r es
  | _, _ => false
def chkP (N : List Str) (sc : Scope) : Pat → Expr → Bool
  | .nm i, .Name y _ => decide (N[i]? = some y) && locB sc y
  | .tp l, .Tuple es _ _ => chkNms N sc l es && decide (2 ≤ l.length)
  | _, _ => false
def isCmp : M → Bool
  | .cmp .. => true
  | .chn .. => true
  | .cmpV .. => true
  | _ => false
def ownL (N : List Str) (ws : List Nat) : List (Str × Nat) := ws.map fun i => ((N[i]?).getD "", i)

/-- what makes a new list or dict -/
def isF (x : Tx) : M → Bool
  | .lst _ => true
  | .dct _ => true
  | .lc .. => true
  | .dc .. => true
  | .lrng _ => true
  | .blt b _ => freshBlt b
  | .call f _ => x.frs f
  | .srt .. => true
  | .lcR .. => true
  | _ => false
def bmN : Bmt → Str
  | .lindex => "index" | .tindex => "index" | .lcount => "count" | .get => "get" | .upper => "upper" | .join => "join"
def bmDone : Bmt → Bool
  | .lindex => true | .tindex => true | .lcount => true | .get => true
  | _ => false
section
variable (x : Tx) (N : List Str)
mutual
def chk : Scope → M → Expr → Bool
  | sc, .var i, .Name y _ => decide (N[i]? = some y) && visB sc y && dbgOk y
  | _, .cst d, .Constant c _ _ => isC c d
  | sc, .glo g, .Name y _ => decide (x.glN g = some y) && glB sc y && dbgOk y
  | sc, .bin op a b, .BinOp ea o eb _ => decide (bopOf op = o) && chk sc a ea && chk sc b eb
  | sc, .neg a, .UnaryOp .USub ea _ => chk sc a ea
  | sc, .cmp op a b, .Compare ea [o] [eb] _ => decide (copOf op = o) && plainA eb && chk sc a ea && chk sc b eb
  | sc, .chn op op' a b c, .Compare ea [o, o'] [eb, ec] _ => decide (copOf op = o) && decide (copOf op' = o') && plainA ec && chk sc a ea && chk sc b eb && chk sc c ec
  | sc, .andd a b, .BoolOp .And (ea :: eb :: []) _ => chk sc a ea && chk sc b eb
  | sc, .andd a b, .BoolOp .And (ea :: eb :: ec :: r) p => chk sc a ea && chk sc b (.BoolOp .And (eb :: ec :: r) p)
  | sc, .orr a b, .BoolOp .Or (ea :: eb :: []) _ => chk sc a ea && chk sc b eb
  | sc, .orr a b, .BoolOp .Or (ea :: eb :: ec :: r) p => chk sc a ea && chk sc b (.BoolOp .Or (eb :: ec :: r) p)
  | sc, .nott a, .UnaryOp .Not ea _ => chk sc a ea
  | sc, .tup l, .Tuple es _ _ => chkL sc l es
  | sc, .lst l, .List es _ => chkL sc l es
  | sc, .idx a b, .Subscript ea eb _ => plainA eb && chk sc a ea && chk sc b eb
  | sc, .slc a lo hi, .Subscript ea (.Slice el eh none _) _ => chk sc a ea && chkO sc lo el && chkO sc hi eh
  | sc, .att a f, .Attribute ea g _ => decide (f = g) && baseP ea && chk sc a ea
  | sc, .call f l, .Call (.Name y _) es [] _ => decide (x.fnN f = some y) && glB sc y && dbgOk y && chkL sc l es
  | sc, .mk c l, .Call (.Name y _) es [] _ => decide (x.clN c = some y) && glB sc y && dbgOk y && chkL sc l es
  | sc, .mth o m l, .Call (.Attribute eo g ap) es [] p => decide (m = g) && baseP eo && decide (es.length < 30) && (ap.endLine == p.line) && chk sc o eo && chkL sc l es
  | sc, .blt b l, .Call (.Name y _) (e :: es) [] _ => glo1 x sc y (bltN b) && chkL sc l (e :: es)
  | sc, .isi a t, .Call (.Name y _) [ea, .Name z _] [] _ => glo1 x sc y "isinstance" && plainA ea && chk sc a ea && decide (tyN x t = some z) && glB sc z && dbgOk z && tyFree x t
  | sc, .lrng (.rng a), .Call (.Name y _) [.Call (.Name z _) [ea] [] _] [] _ => glo1 x sc y "list" && glo1 x sc z "range" && plainA ea && chk sc a ea
  | sc, .lrng (.rng2 a b), .Call (.Name y _) [.Call (.Name z _) [ea, eb] [] _] [] _ => glo1 x sc y "list" && glo1 x sc z "range" && plainA ea && plainA eb && chk sc a ea && chk sc b eb
  | sc, .lc ws elt p it cs, .ListComp ee [⟨tg, iter, ifs, 0⟩] scope _ => blkC N sc scope (ownL N ws) && chkP N scope p tg && plainA iter && chkI sc it iter && chkTs (relS scope sc) cs ifs && chk (relS scope sc) elt ee
  | sc, .dct l, .Dict ks vs _ => chkK sc l ks vs && decide (ks.length ≤ 15)
  | sc, .dc ws k v p it cs, .DictComp ek ev [⟨tg, iter, ifs, 0⟩] scope _ => blkC N sc scope (ownL N ws) && chkP N scope p tg && plainA iter && chkI sc it iter && chkTs (relS scope sc) cs ifs && chk (relS scope sc) k ek && chk (relS scope sc) v ev
  | sc, .bm b o l, .Call (.Attribute eo g ap) (e :: es) [] p => decide (bmN b = g) && bmDone b && baseP eo && decide ((e :: es).length < 30) && (ap.endLine == p.line) && chk sc o eo && chkL sc l (e :: es)
  | sc, .upp o, .Call (.Attribute eo g ap) [] [] p => decide (("upper" : Str) = g) && baseP eo && (ap.endLine == p.line) && chk sc o eo
  | sc, .srt .str m, .Call (.Name y _) [e] [⟨some k, .Name z _, _⟩] _ => decide (k = ("key" : Str)) && glo1 x sc y "sorted" && glo1 x sc z "str" && plainA e && chk sc m e
  | sc, .join o m, .Call (.Attribute eo g ap) [e] [] p => decide (g = ("join" : Str)) && baseP eo && plainA e && (ap.endLine == p.line) && chk sc o eo && chk sc m e
  | sc, .slen ws i m, .Call (.Name y _) [.SetComp (.Name z1 _) [⟨.Name z2 _, iter, [], 0⟩] scope _] [] _ => glo1 x sc y "len" && blkC N sc scope (ownL N ws) && decide (N[i]? = some z2) && locB scope z2 && decide (N[i]? = some z1) && visB (relS scope sc) z1 && dbgOk z1 && plainA iter && chk sc m iter
  | sc, .cmpV op a b, .Compare ea [o] [eb] _ => decide (copOf op = o) && plainA eb && chk sc a ea && chk sc b eb
  | sc, .lcR ws elt p m cs, .ListComp ee [⟨tg, iter, ifs, 0⟩] scope _ => blkC N sc scope (ownL N ws) && chkP N scope p tg && plainA iter && chk sc m iter && chkTs (relS scope sc) cs ifs && chk (relS scope sc) elt ee
  | sc, .sh a, e => isF x a && chk sc a e
  | _, _, _ => false
def chkK : Scope → Kvs → List (Option Expr) → List Expr → Bool
  | _, .nil, [], [] => true
  | sc, .cons k v l, some ek :: ks, ev :: vs => chk sc k ek && chk sc v ev && chkK sc l ks vs
  | _, _, _, _ => false
def chkL : Scope → Ms → List Expr → Bool
  | _, .nil, [] => true
  | sc, .cons m l, e :: es => plainA e && chk sc m e && chkL sc l es
  | _, _, _ => false
def chkO : Scope → Mo → Option Expr → Bool
  | _, .no, none => true
  | sc, .so m, some e => chk sc m e
  | _, _, _ => false
def chkI : Scope → It → Expr → Bool
  | sc, .val m, e => chk sc m e
  | sc, .rng a, .Call (.Name z _) [ea] [] _ => glo1 x sc z "range" && plainA ea && chk sc a ea
  | sc, .rng2 a b, .Call (.Name z _) [ea, eb] [] _ => glo1 x sc z "range" && plainA ea && plainA eb && chk sc a ea && chk sc b eb
  | _, _, _ => false
def chkT : Scope → T → Expr → Bool
  | sc, .v m, e => (testP e || isCmp m) && chk sc m e
  | sc, .and a b, .BoolOp .And (ea :: eb :: []) _ => chkT sc a ea && chkT sc b eb
  | sc, .and a b, .BoolOp .And (ea :: eb :: ec :: r) p => chkT sc a ea && chkT sc b (.BoolOp .And (eb :: ec :: r) p)
  | sc, .or a b, .BoolOp .Or (ea :: eb :: []) _ => chkT sc a ea && chkT sc b eb
  | sc, .or a b, .BoolOp .Or (ea :: eb :: ec :: r) p => chkT sc a ea && chkT sc b (.BoolOp .Or (eb :: ec :: r) p)
  | sc, .not a, .UnaryOp .Not ea _ => chkT sc a ea
  | _, _, _ => false
def chkTs : Scope → Ts → List Expr → Bool
  | _, .nil, [] => true
  | sc, .cons c .nil, [e] => chkT sc c e
  | _, _, _ => false
end
end
end MP

set_option maxRecDepth 100000
set_option maxHeartbeats 1000000
/-! MP12: expressions, a lemma for each form. -/
namespace MP
open PySem PySem.Spec PyProof.Rows L2

abbrev cx0 : CXT := fun _ _ _ _ _ _ => False
structure TxF (tb : Tb) (x : Tx) (C : RC) (mg : Str → Option Value) : Prop where
  fn : ∀ (f : Nat) (n : Str), x.fnN f = some n → mg n = some (.ref (x.fa f)) ∧ PySem.W.keepIn C.K (.ref (x.fa f)) = true
  cl : ∀ (c : Nat) (n : Str), x.clN c = some n → mg n = some (.ref (x.ca c))
  gl : ∀ (g : Nat) (n : Str), x.glN g = some n → ∃ u v, mg n = some u ∧ RelV v u ∧ ∀ ι M H, Rep C ι M H v (tb.glo g)
  fre : ∀ n : Str, x.free n = true → mg n = none
  mt : ∀ (c : Nat) (m : Str) (f : Nat), tb.meth c m = some f → Meth C.K (x.ca c) m (x.fa f)
  mfn : ∀ (c : Nat) (m : Str) (f : Nat), tb.meth c m = some f → PySem.W.fnIn C.K (x.fa f) = true
  mkr : ∀ (c f : Nat), tb.init c = some f → Mk C.K (x.ca c) (x.fa f)
  fld : ∀ (c : Nat) (f : Str), tb.fld c f = true → NoAttr C.K (x.ca c) f
  cls : ∀ c, ClsF C.K (x.ca c)
  ty : TyF tb C.K x.ca
  bnd : ∀ f, Binds C.K (x.fdat f) (x.fps f) []
  bndD : ∀ f n, n + (tb.dfl f n).length = (x.fps f).length → ∃ ds dvs, Binds C.K (x.fdat f) (x.fps f) ds ∧ Vals dvs ds ∧ ∀ ι M H, Reps C ι M H dvs (tb.dfl f n)
/-- a context of a text's code -/
structure Gd (tb : Tb) (Φ : Nat → List D → MH → R D) (x : Tx) (N : List Str) (j : Nat) (S : SC) (X : Cx) : Prop where
  C : S.C = cx X x.ca
  calm : X.calm = true
  nm : X.N = N
  nd : N.Nodup
  hu : X.A.units + 65 < cLine
  tx : TxF tb x S.C X.mg
  fn : ∀ f, FnOk X.prog X.w X.K X.mg X.base cx0 j (x.fa f) (x.fdat f) (x.fps f) (spF S.C (x.fps f).length (x.frs f) (Φ f))
  room : Room (j + 1) X.A

section
variable {X : Cx} {e : Expr} {es : List Expr}
theorem PA.imp {t t' : TA} (h : PA X es t) (i : ∀ σ H Q, t' σ H Q → t σ H Q) : PA X es t' := ⟨fun pos pins s σ H Q I q => h.run pos pins s σ H Q I (i σ H Q q)⟩
theorem PT.imp {t t' : TT} (h : PT X e t) (i : ∀ σ H Q, t' σ H Q → t σ H Q) : PT X e t' := ⟨fun pins s σ H Q I q => h.run pins s σ H Q I (i σ H Q q)⟩
theorem PTs.imp {t t' : TT} (h : PTs X es t) (i : ∀ σ H Q, t' σ H Q → t σ H Q) : PTs X es t' := ⟨fun pins s σ H Q I q => h.run pins s σ H Q I (i σ H Q q)⟩
theorem visB_of {sc : Scope} {y : Str} (h : visB sc y = true) : Vis sc y := by
  unfold visB at h
  split at h
  · exact .inl (by assumption)
  · exact .inr (.inl (by assumption))
  · exact .inr (.inr (by assumption))
  · cases h
theorem glB_of {sc : Scope} {y : Str} (h : glB sc y = true) (e : X.env.scope = sc) : Gl X y := by
  unfold glB at h
  split at h
  · subst e; assumption
  · cases h
theorem dbg1 {y : Str} (h : dbgOk y = true) : (y == ("__debug__" : Str)) = false := by
  unfold dbgOk at h
  rw [Bool.and_eq_true] at h
  exact (Bool.not_eq_true' _).mp h.1
theorem dbg2 {y : Str} (h : dbgOk y = true) : (y == ("__classdict__" : Str)) = false := by
  unfold dbgOk at h
  rw [Bool.and_eq_true] at h
  exact (Bool.not_eq_true' _).mp h.2
theorem plain_star {e : Expr} {es : List Expr} {env : Env} (h : plainA e = true) : starEach (e :: es) env = (false, eval e env) :: starEach es env := by
  cases e <;> first | rfl | cases h
theorem plain_mark {op : CmpOp} {e : Expr} (h : plainA e = true) : behindInMarks op e = false := by
  cases e <;> first | rfl | cases h
theorem plain_ix {e : Expr} (h : plainA e = true) : PlainIx e := by
  intro o i
  cases e <;> first | rfl | cases h
theorem plain_fold {e : Expr} (h : plainA e = true) : ∀ env x, foldedSetIterable e env x = pure x := by
  intro env x
  cases e <;> first | rfl | cases h
theorem test_plain {e : Expr} {env : Env} (h : testP e = true) : ∀ whole, isTrue e env whole = (do let v ← whole; standAt e.pos; holding [v] (truthy v)) := by
  intro whole
  cases e <;> first | rfl | cases h
theorem base_plain {e : Expr} {f : Str} {env : Env} (h : baseP e = true) : attributeBase e f env (eval e env) = eval e env := by
  cases e with
  | Call fn args kws pos =>
    cases args with
    | nil => cases h
    | cons a r => cases fn <;> rfl
  | _ => rfl
end

section
variable {tb : Tb} {Φ : Nat → List D → MH → R D} {x : Tx} {N : List Str} {j : Nat} {S : SC} {X : Cx} {sc : Scope} {e ea eb ec : Expr} {es : List Expr} {a b c m : M} {pos p p2 : Pos} {y : Str}

theorem e_var {i : Nat} (G : Gd tb Φ x N j S X) (hs : X.env.scope = sc) (h1 : N[i]? = some y) (h2 : visB sc y = true) (h3 : dbgOk y = true) : PE X (.Name y pos) (tO tb Φ S (.var i)) := by
  subst hs
  have hN : X.N[i]? = some y := by rw [G.nm]; exact h1
  refine PE.imp (pe_var hN (visB_of h2) (dbg1 h3) (dbg2 h3)) fun σ H Q ⟨ι, e, h, rl, xo, h', eq, K⟩ => ?_
  have eq' : (match e[i]? with
    | some (.val d) => R.ok (.d d) h
    | some (.own _) => R.ok (Od.own i) h
    | _ => R.no) = R.ok xo h' := eq
  cases q : e[i]? with
  | none => rw [q] at eq'; cases eq'
  | some s =>
    rw [q] at eq'
    cases s with
    | no => cases eq'
    | val d =>
      cases eq'
      obtain ⟨v, h1, h2⟩ := rl.val i d q
      exact ⟨v, h1, K ι H v .refl rl h2⟩
    | own d =>
      cases eq'
      obtain ⟨a, h1, _⟩ := rl.own i d q
      exact ⟨_, h1, K ι H _ .refl rl h1⟩
theorem e_of_o (hp : PE X e (tO tb Φ S m)) (hm : ∀ r e h d h', r = R.ok d h' → (∀ i, m = .var i → ∃ d, e[i]? = some (.val d)) → opd m r e h = .ok (.d d) h') (hv : ∀ e h d h' i, m = .var i → ev tb Φ m e h = R.ok d h' → ∃ d, e[i]? = some (.val d)) : PE X e (tE tb Φ S m) :=
  PE.imp hp fun σ H Q ⟨ι, e, h, rl, d, h', eq, K⟩ => ⟨ι, e, h, rl, .d d, h', hm _ _ _ _ _ eq fun i z => hv e h d h' i z eq, fun ι' H' v g rl' r => K ι' H' v g rl' r⟩
theorem e_o (hp : PE X e (tE tb Φ S m)) (hm : ∀ r e h, opd m r e h = r.bind fun d h => .ok (.d d) h) : PE X e (tO tb Φ S m) :=
  PE.imp hp fun σ H Q ⟨ι, e, h, rl, xo, h', eq, K⟩ => by
    rw [hm] at eq
    obtain ⟨d, h1, e1, e2⟩ := bind_ok eq
    cases e2
    exact ⟨ι, e, h, rl, d, _, e1, fun ι' H' v g rl' r => K ι' H' v g rl' r⟩
theorem e_var' {i : Nat} (G : Gd tb Φ x N j S X) (hs : X.env.scope = sc) (h1 : N[i]? = some y) (h2 : visB sc y = true) (h3 : dbgOk y = true) : PE X (.Name y pos) (tE tb Φ S (.var i)) := by
  refine PE.imp (e_var G hs h1 h2 h3) fun σ H Q ⟨ι, e, h, rl, d, h', eq, K⟩ => ⟨ι, e, h, rl, .d d, h', ?_, fun ι' H' v g rl' r => K ι' H' v g rl' r⟩
  have eq' : (match e[i]? with
    | some (.val d) => R.ok d h
    | _ => R.no) = R.ok d h' := eq
  show (match e[i]? with
    | some (.val d) => R.ok (.d d) h
    | some (.own _) => R.ok (Od.own i) h
    | _ => R.no) = R.ok (.d d) h'
  cases q : e[i]? with
  | none => rw [q] at eq'; cases eq'
  | some s =>
    rw [q] at eq'
    cases s <;> cases eq'
    rfl

theorem e_cst {d : D} {co : Const} {k : Nat} (h : isC co d = true) : PE X (.Constant co k pos) (tE tb Φ S (.cst d)) := by
  cases co <;> cases d <;> first | (cases h; done) | skip
  · exact PE.imp pe_non fun σ H Q ⟨ι, e, h, rl, d, h', eq, K⟩ => by cases eq; exact K ι H _ .refl rl .non
  · rename_i b c
    have hb : b = c := beq_iff_eq.mp h
    subst hb
    exact PE.imp pe_bl fun σ H Q ⟨ι, e, h, rl, d, h', eq, K⟩ => by cases eq; exact K ι H _ .refl rl (.bl _)
  · rename_i b c
    have hb : b = c := of_decide_eq_true h
    subst hb
    exact PE.imp pe_int fun σ H Q ⟨ι, e, h, rl, d, h', eq, K⟩ => by cases eq; exact K ι H _ .refl rl (.int _)
  · rename_i b c
    have hb : b = c := of_decide_eq_true h
    subst hb
    exact PE.imp pe_str fun σ H Q ⟨ι, e, h, rl, d, h', eq, K⟩ => by cases eq; exact K ι H _ .refl rl (.str _)
theorem e_glo {g : Nat} (G : Gd tb Φ x N j S X) (hs : X.env.scope = sc) (h1 : x.glN g = some y) (h2 : glB sc y = true) (h3 : dbgOk y = true) : PE X (.Name y pos) (tE tb Φ S (.glo g)) := by
  obtain ⟨u, v, hm, rv, rp⟩ := G.tx.gl g y h1
  exact PE.imp (pe_glob (glB_of h2 hs) hm rv (dbg1 h3)) fun σ H Q ⟨ι, e, h, rl, d, h', eq, K⟩ => by
    cases eq
    exact K ι H v .refl rl (rp _ _ _)
theorem vo2 {S : SC} {ι : List Addr} {e : Ev} {h : MH} {xo yo : Od} {α : Type} {f : D → D → R α} {r : α} {h' : MH} (eq : (match vo e h xo, vo e h yo with
    | some x, some y => f x y
    | _, _ => .no) = R.ok r h') : ∃ dx dy, vo e h xo = some dx ∧ vo e h yo = some dy ∧ f dx dy = R.ok r h' := by
  cases hx : vo e h xo with
  | none => rw [hx] at eq; cases eq
  | some dx =>
    cases hy : vo e h yo with
    | none => rw [hx, hy] at eq; cases eq
    | some dy => rw [hx, hy] at eq; exact ⟨dx, dy, rfl, rfl, eq⟩
theorem e_bin {op : Bop} (G : Gd tb Φ x N j S X) (ha : PE X ea (tO tb Φ S a)) (hb : PE X eb (tO tb Φ S b)) : PE X (.BinOp ea (bopOf op) eb pos) (tE tb Φ S (.bin op a b)) := by
  have bo : OpR X (binaryOp (bopOf op)) (rBin S.C (binD op)) := by rw [G.C]; exact bin_ok op
  refine PE.imp (pe_op bo ha hb) fun σ H Q ⟨ι, e, h, rl, d, h', eq, K⟩ => ?_
  obtain ⟨xo, h1, e1, eq⟩ := bind_ok eq
  obtain ⟨yo, h2, e2, eq⟩ := bind_ok eq
  refine ⟨ι, e, h, rl, xo, h1, e1, fun ι1 H1 v1 g1 rl1 r1 => ⟨ι1, e, h1, rl1, yo, h2, e2, fun ι2 H2 v2 g2 rl2 r2 => ?_⟩⟩
  obtain ⟨dx, dy, hx, hy, hf⟩ := vo2 (S := S) (ι := ι) eq
  obtain ⟨hd, rfl⟩ := of_ok hf
  exact ⟨ι2, _, dx, dy, d, rl2.known, rl2.vo (r1.go g2) hx, rl2.vo r2 hy, hd, fun H3 v s r => K ι2 H3 v (g1.trans (g2.trans (.same s))) (rl2.grow s) r⟩
theorem e_neg (ha : PE X ea (tE tb Φ S a)) : PE X (.UnaryOp .USub ea pos) (tE tb Φ S (.neg a)) := by
  refine PE.imp (pe_un un_neg ha) fun σ H Q ⟨ι, e, h, rl, d, h', eq, K⟩ => ?_
  obtain ⟨dx, h1, e1, eq⟩ := bind_ok eq
  refine ⟨ι, e, h, rl, dx, h1, e1, fun ι1 H1 v1 g1 rl1 r1 => ?_⟩
  cases r1 <;> first | (cases eq; done) | skip
  cases eq
  exact ⟨_, rfl, K ι1 H1 _ g1 rl1 (.int _)⟩
theorem cmp_core {op : Cop} {σ : L2.St} {H : Hp} {Q : VK} {ι : List Addr} {e : Ev} {h h' : MH} {d : D} (rl : Rel S ι e h σ H) (eq : ev tb Φ (.cmp op a b) e h = .ok d h')
    (K : ∀ ι' H' (k : Bool), d = .bl k → Go ι (Mu S.M0 ι e σ) H ι' (Mu S.M0 ι' e σ) H' → Rel S ι' e h' σ H' → Q (.bl k) H') : tOp (rCmp S.C (cmpD op)) (tO tb Φ S a) (tO tb Φ S b) σ H Q := by
  obtain ⟨xo, h1, e1, eq⟩ := bind_ok eq
  obtain ⟨yo, h2, e2, eq⟩ := bind_ok eq
  refine ⟨ι, e, h, rl, xo, h1, e1, fun ι1 H1 v1 g1 rl1 r1 => ⟨ι1, e, h1, rl1, yo, h2, e2, fun ι2 H2 v2 g2 rl2 r2 => ?_⟩⟩
  obtain ⟨dx, dy, hx, hy, hf⟩ := vo2 (S := S) (ι := ι) eq
  obtain ⟨hd, rfl⟩ := of_ok hf
  obtain ⟨k, hk, rfl⟩ := Option.map_eq_some_iff.mp hd
  exact ⟨ι2, _, dx, dy, k, rl2.known, rl2.vo (r1.go g2) hx, rl2.vo r2 hy, hk, K ι2 H2 k rfl (g1.trans g2) rl2⟩
theorem e_cmp {op : Cop} (G : Gd tb Φ x N j S X) (ha : PE X ea (tO tb Φ S a)) (hb : PE X eb (tO tb Φ S b)) (hp : plainA eb = true) : PE X (.Compare ea [copOf op] [eb] pos) (tE tb Φ S (.cmp op a b)) := by
  have bo : OpR X (compareOp (copOf op)) (rCmp S.C (cmpD op)) := by rw [G.C]; exact cmp_ok G.hu op
  exact PE.imp (pe_cmpR bo ha hb (plain_mark hp)) fun σ H Q ⟨ι, e, h, rl, d, h', eq, K⟩ => cmp_core rl eq fun ι' H' k ed g rl' => K ι' H' _ g rl' (ed ▸ .bl k)
theorem t_cmp {op : Cop} (G : Gd tb Φ x N j S X) (ha : PE X ea (tO tb Φ S a)) (hb : PE X eb (tO tb Φ S b)) (hp : plainA eb = true) : PT X (.Compare ea [copOf op] [eb] pos) (tT tb Φ S (.v (.cmp op a b))) := by
  have bo : OpR X (compareOp (copOf op)) (rCmp S.C (cmpD op)) := by rw [G.C]; exact cmp_ok G.hu op
  refine PT.imp (pt_cmpR bo ha hb (plain_mark hp)) fun σ H Q ⟨ι, e, h, rl, t, h', eq, K⟩ => ?_
  obtain ⟨xo, h1, e1, eq⟩ := bind_ok eq
  obtain ⟨d, h2, e2, e3⟩ := bind_ok (show (ev tb Φ (.cmp op a b) e h).bind (fun d h => .ok (Od.d d) h) = R.ok xo h1 from e1)
  cases e3
  obtain ⟨eq, rfl⟩ := of_ok eq
  refine cmp_core rl e2 fun ι' H' k ed g rl' => ⟨k, rfl, ?_⟩
  subst ed
  have : t = k := by
    have z : some k = some t := eq
    exact (Option.some.inj z).symm
  subst this
  exact K ι' H' g rl'
theorem chn_core {op op' : Cop} {σ : L2.St} {H : Hp} {Q : VK} {ι : List Addr} {e : Ev} {h h' : MH} {d : D} (rl : Rel S ι e h σ H) (eq : ev tb Φ (.chn op op' a b c) e h = .ok d h')
    (K : ∀ ι' H' (k : Bool), d = .bl k → Go ι (Mu S.M0 ι e σ) H ι' (Mu S.M0 ι' e σ) H' → Rel S ι' e h' σ H' → Q (.bl k) H') : tChain (rCmp S.C (cmpD op)) (rCmp S.C (cmpD op')) (tO tb Φ S a) (tO tb Φ S b) (tO tb Φ S c) σ H Q := by
  obtain ⟨xo, h1, e1, eq⟩ := bind_ok eq
  obtain ⟨yo, h2, e2, eq⟩ := bind_ok eq
  refine ⟨ι, e, h, rl, xo, h1, e1, fun ι1 H1 v1 g1 rl1 r1 => ⟨ι1, e, h1, rl1, yo, h2, e2, fun ι2 H2 v2 g2 rl2 r2 => ?_⟩⟩
  obtain ⟨dx, dy, hx, hy, hf⟩ := vo2 (S := S) (ι := ι) eq
  cases hk : cmpD op dx dy with
  | none => rw [hk] at hf; cases hf
  | some k =>
    rw [hk] at hf
    refine ⟨ι2, _, dx, dy, k, rl2.known, rl2.vo (r1.go g2) hx, rl2.vo r2 hy, hk, k, rfl, ?_⟩
    cases k with
    | false =>
      cases hf
      exact K ι2 H2 false rfl (g1.trans g2) rl2
    | true =>
      obtain ⟨zo, h3, e3, hf⟩ := bind_ok hf
      refine ⟨ι2, e, h2, rl2, zo, h3, e3, fun ι3 H3 v3 g3 rl3 r3 => ?_⟩
      obtain ⟨dy', dz, hy', hz, hf⟩ := vo2 (S := S) (ι := ι) hf
      obtain ⟨hd, rfl⟩ := of_ok hf
      obtain ⟨k, hk, rfl⟩ := Option.map_eq_some_iff.mp hd
      exact ⟨ι3, _, dy', dz, k, rl3.known, rl3.vo (r2.go g3) hy', rl3.vo r3 hz, hk, K ι3 H3 k rfl (g1.trans (g2.trans g3)) rl3⟩
theorem plain_last {op op' : CmpOp} {b c : Expr} (h : plainA c = true) : lastMarks [op, op'] [b, c] = false := plain_mark (op := op') h
theorem e_chn {op op' : Cop} (G : Gd tb Φ x N j S X) (ha : PE X ea (tO tb Φ S a)) (hb : PE X eb (tO tb Φ S b)) (hc : PE X ec (tO tb Φ S c)) (hp : plainA ec = true) : PE X (.Compare ea [copOf op, copOf op'] [eb, ec] pos) (tE tb Φ S (.chn op op' a b c)) := by
  have bo : ∀ op, OpR X (compareOp (copOf op)) (rCmp S.C (cmpD op)) := fun op => by rw [G.C]; exact cmp_ok G.hu op
  exact PE.imp (pe_chain (bo op) (bo op') ha hb hc (plain_last hp)) fun σ H Q ⟨ι, e, h, rl, d, h', eq, K⟩ => chn_core rl eq fun ι' H' k ed g rl' => K ι' H' _ g rl' (ed ▸ .bl k)
theorem t_chn {op op' : Cop} (G : Gd tb Φ x N j S X) (ha : PE X ea (tO tb Φ S a)) (hb : PE X eb (tO tb Φ S b)) (hc : PE X ec (tO tb Φ S c)) (hp : plainA ec = true) : PT X (.Compare ea [copOf op, copOf op'] [eb, ec] pos) (tT tb Φ S (.v (.chn op op' a b c))) := by
  have bo : ∀ op, OpR X (compareOp (copOf op)) (rCmp S.C (cmpD op)) := fun op => by rw [G.C]; exact cmp_ok G.hu op
  refine PT.imp (pt_chain (bo op) (bo op') ha hb hc (plain_last hp)) fun σ H Q ⟨ι, e, h, rl, t, h', eq, K⟩ => ?_
  obtain ⟨xo, h1, e1, eq⟩ := bind_ok eq
  obtain ⟨d, h2, e2, e3⟩ := bind_ok (show (ev tb Φ (.chn op op' a b c) e h).bind (fun d h => .ok (Od.d d) h) = R.ok xo h1 from e1)
  cases e3
  obtain ⟨eq, rfl⟩ := of_ok eq
  refine chn_core rl e2 fun ι' H' k ed g rl' => ⟨k, rfl, ?_⟩
  subst ed
  have : t = k := by
    have z : some k = some t := eq
    exact (Option.some.inj z).symm
  subst this
  exact K ι' H' g rl'
theorem ite_ok' {α : Type} {c : Prop} [Decidable c] {a : R α} {r : α} {h : MH} (eq : (if c then a else R.no) = R.ok r h) : c ∧ a = R.ok r h := by
  split at eq
  · exact ⟨by assumption, eq⟩
  · cases eq
/-! and, or, not as values -/
theorem e_and {rest : List Expr} {eb : Expr} (ha : PE X ea (tE tb Φ S a)) (hb : PE X (.BoolOp .And (eb :: rest) pos) (tE tb Φ S b)) : PE X (.BoolOp .And (ea :: eb :: rest) pos) (tE tb Φ S (.andd a b)) := by
  refine PE.imp (pe_and ha hb) fun σ H Q ⟨ι, e, h, rl, d, h', eq, K⟩ => ?_
  obtain ⟨dx, h1, e1, eq⟩ := bind_ok eq
  refine ⟨ι, e, h, rl, dx, h1, e1, fun ι1 H1 v1 g1 rl1 r1 => ?_⟩
  cases r1 <;> first | (cases eq; done) | skip
  rename_i k
  cases k with
  | false => cases eq; exact ⟨false, rfl, K ι1 H1 _ g1 rl1 (.bl _)⟩
  | true => exact ⟨true, rfl, ι1, e, h1, rl1, d, h', eq, fun ι2 H2 v2 g2 rl2 r2 => K ι2 H2 v2 (g1.trans g2) rl2 r2⟩
theorem e_or {rest : List Expr} {eb : Expr} (ha : PE X ea (tE tb Φ S a)) (hb : PE X (.BoolOp .Or (eb :: rest) pos) (tE tb Φ S b)) : PE X (.BoolOp .Or (ea :: eb :: rest) pos) (tE tb Φ S (.orr a b)) := by
  refine PE.imp (pe_or ha hb) fun σ H Q ⟨ι, e, h, rl, d, h', eq, K⟩ => ?_
  obtain ⟨dx, h1, e1, eq⟩ := bind_ok eq
  refine ⟨ι, e, h, rl, dx, h1, e1, fun ι1 H1 v1 g1 rl1 r1 => ?_⟩
  cases r1 <;> first | (cases eq; done) | skip
  rename_i k
  cases k with
  | true => cases eq; exact ⟨true, rfl, K ι1 H1 _ g1 rl1 (.bl _)⟩
  | false => exact ⟨false, rfl, ι1, e, h1, rl1, d, h', eq, fun ι2 H2 v2 g2 rl2 r2 => K ι2 H2 v2 (g1.trans g2) rl2 r2⟩
theorem e_not (ha : PE X ea (tE tb Φ S a)) : PE X (.UnaryOp .Not ea pos) (tE tb Φ S (.nott a)) := by
  refine PE.imp (pe_not ha) fun σ H Q ⟨ι, e, h, rl, d, h', eq, K⟩ => ?_
  obtain ⟨dx, h1, e1, eq⟩ := bind_ok eq
  refine ⟨ι, e, h, rl, dx, h1, e1, fun ι1 H1 v1 g1 rl1 r1 => ?_⟩
  cases r1 <;> first | (cases eq; done) | skip
  cases eq
  exact ⟨_, rfl, K ι1 H1 _ g1 rl1 (.bl _)⟩
theorem e_upp {apos cpos : Pos} (ho : PE X ea (tE tb Φ S a)) (hb : baseP ea = true) (hn : (apos.endLine == cpos.line) = true) : PE X (.Call (.Attribute ea "upper" apos) [] [] cpos) (tE tb Φ S (.upp a)) := by
  refine PE.imp (pe_upper ho (base_plain hb) hn) fun σ H Q ⟨ι, e, h, rl, d, h', eq, K⟩ => ?_
  obtain ⟨dx, h1, e1, eq⟩ := bind_ok eq
  refine ⟨ι, e, h, rl, dx, h1, e1, fun ι1 H1 v1 g1 rl1 r1 => ?_⟩
  cases r1 <;> first | (cases eq; done) | skip
  rename_i x
  obtain ⟨hc, eq⟩ := ite_ok' eq
  cases eq
  exact ⟨⟨x, rfl⟩, x, rfl, rfl, hc, K ι1 H1 _ g1 rl1 (.str _)⟩
/-! displays -/
theorem a_nil : PA X [] (tEs tb Φ S .nil) := PA.imp pa_nil fun σ H Q ⟨ι, e, h, rl, d, h', eq, K⟩ => by cases eq; exact K ι H _ .refl rl .nil
theorem a_cons {l : Ms} (ha : PE X ea (tE tb Φ S a)) (hr : PA X es (tEs tb Φ S l)) (hp : plainA ea = true) : PA X (ea :: es) (tEs tb Φ S (.cons a l)) := by
  refine PA.imp (pa_cons ha hr (plain_star hp)) fun σ H Q ⟨ι, e, h, rl, d, h', eq, K⟩ => ?_
  obtain ⟨dx, h1, e1, eq⟩ := bind_ok eq
  obtain ⟨ds, h2, e2, eq⟩ := bind_ok eq
  cases eq
  exact ⟨ι, e, h, rl, dx, h1, e1, fun ι1 H1 v1 g1 rl1 r1 => ⟨ι1, e, h1, rl1, ds, _, e2, fun ι2 H2 v2 g2 rl2 r2 => K ι2 H2 _ (g1.trans g2) rl2 (.cons (r1.go g2) r2)⟩⟩
theorem ao_nil : PA X [] (tOs tb Φ S .nil) := PA.imp pa_nil fun σ H Q ⟨ι, e, h, rl, d, h', eq, K⟩ => by cases eq; exact K ι H _ .refl rl .nil
theorem OReps.go {ι ι' : List Addr} {e : Ev} {σ : L2.St} {H H' : Hp} : ∀ {vs : List V} {xs : List Od}, OReps S ι e σ H vs xs → Go ι (Mu S.M0 ι e σ) H ι' (Mu S.M0 ι' e σ) H' → OReps S ι' e σ H' vs xs
  | _, _, .nil, _ => .nil
  | _, _, .cons r rs, g => .cons (r.go g) (OReps.go rs g)
theorem ao_cons {l : Ms} (ha : PE X ea (tO tb Φ S a)) (hr : PA X es (tOs tb Φ S l)) (hp : plainA ea = true) : PA X (ea :: es) (tOs tb Φ S (.cons a l)) := by
  refine PA.imp (pa_cons ha hr (plain_star hp)) fun σ H Q ⟨ι, e, h, rl, d, h', eq, K⟩ => ?_
  obtain ⟨dx, h1, e1, eq⟩ := bind_ok eq
  obtain ⟨ds, h2, e2, eq⟩ := bind_ok eq
  cases eq
  exact ⟨ι, e, h, rl, dx, h1, e1, fun ι1 H1 v1 g1 rl1 r1 => ⟨ι1, e, h1, rl1, ds, _, e2, fun ι2 H2 v2 g2 rl2 r2 => K ι2 H2 _ (g1.trans g2) rl2 (.cons (r1.go g2) r2)⟩⟩
theorem ite_ok {α : Type} {c : Prop} [Decidable c] {a : R α} {r : α} {h : MH} (eq : (if c then a else R.no) = R.ok r h) : c ∧ a = R.ok r h := by
  split at eq
  · exact ⟨by assumption, eq⟩
  · cases eq
theorem e_tup {l : Ms} {k : Nat} (hl : PA X es (tEs tb Φ S l)) : PE X (.Tuple es k pos) (tE tb Φ S (.tup l)) := by
  refine PE.imp (pe_tupN hl) fun σ H Q ⟨ι, e, h, rl, d, h', eq, K⟩ => ?_
  obtain ⟨ds, h1, e1, eq⟩ := bind_ok eq
  obtain ⟨hc, eq⟩ := ite_ok eq
  cases eq
  exact ⟨ι, e, h, rl, ds, _, e1, fun ι1 H1 vs g1 rl1 r1 => ⟨by rw [r1.length]; exact lim_le hc, fun p o hp ho => K ι1 _ _ (g1.trans (.same (same_laid hp))) (rl1.grow (same_laid hp)) (.tupNew rl1.known hp ho r1)⟩⟩
theorem e_lstF {l : Ms} (hl : PA X es (tEs tb Φ S l)) : PE X (.List es pos) (tF tb Φ S (.lst l)) := by
  refine PE.imp (pe_lst hl) fun σ H Q ⟨ι, e, h, rl, d, h', eq, K⟩ => ?_
  obtain ⟨ds, h1, e1, eq⟩ := bind_ok eq
  obtain ⟨hc, eq⟩ := ite_ok eq
  cases eq
  exact ⟨ι, e, h, rl, ds, _, e1, fun ι1 H1 vs g1 rl1 r1 => ⟨by rw [r1.length]; exact lim_le hc, fun p hp => K ι1 _ p (g1.back hp) (rl1.notin hp) (g1.trans (goNew hp)) (rl1.plusNew hp) (.lst upd_same (r1.go (goNew hp)))⟩⟩
/-! subscripts, fields -/
def tMo (tb : Tb) (Φ : Nat → List D → MH → R D) (S : SC) (o : Mo) : TO := fun σ H Q => ∃ ι e h, Rel S ι e h σ H ∧ OutP S e σ (evo tb Φ o e h) ι H Q
theorem o_no : PO X none (tMo tb Φ S .no) := ⟨fun pins s σ H Q I ⟨ι, e, h, rl, d, h', eq, K⟩ => by
  cases eq
  exact po_none.run pins s σ H Q I (K ι H .refl rl)⟩
theorem o_so (ha : PE X ea (tE tb Φ S a)) : PO X (some ea) (tMo tb Φ S (.so a)) := ⟨fun pins s σ H Q I ⟨ι, e, h, rl, d, h', eq, K⟩ => by
  refine (po_some ha).run pins s σ H Q I ?_
  obtain ⟨dx, h1, e1, eq⟩ := bind_ok eq
  refine ⟨ι, e, h, rl, dx, h1, e1, fun ι1 H1 v1 g1 rl1 r1 => ?_⟩
  cases r1 <;> first | (cases eq; done) | skip
  cases eq
  exact ⟨_, rfl, K ι1 H1 g1 rl1⟩⟩
theorem e_slc {lo hi : Mo} {el eh : Option Expr} (G : Gd tb Φ x N j S X) (ha : PE X ea (tO tb Φ S a)) (hl : PO X el (tMo tb Φ S lo)) (hh : PO X eh (tMo tb Φ S hi)) : PE X (.Subscript ea (.Slice el eh none p2) pos) (tE tb Φ S (.slc a lo hi)) := by
  have bo : SlR X (rSlc S.C) := by rw [G.C]; exact slc_ok
  refine PE.imp (pe_slice bo ha hl hh) fun σ H Q ⟨ι, e, h, rl, d, h', eq, K⟩ => ?_
  obtain ⟨xo, h1, e1, eq⟩ := bind_ok eq
  obtain ⟨lo', h2, e2, eq⟩ := bind_ok eq
  obtain ⟨hi', h3, e3, eq⟩ := bind_ok eq
  refine ⟨ι, e, h, rl, xo, h1, e1, fun ι1 H1 v1 g1 rl1 r1 => ⟨ι1, e, h1, rl1, lo', h2, e2, fun ι2 H2 g2 rl2 => ⟨ι2, e, h2, rl2, hi', h3, e3, fun ι3 H3 g3 rl3 => ?_⟩⟩⟩
  cases hx : vo e h3 xo with
  | none => rw [hx] at eq; cases eq
  | some dx =>
    rw [hx] at eq
    obtain ⟨hd, rfl⟩ := of_ok eq
    exact ⟨ι3, _, dx, d, rl3.known, rl3.vo (r1.go (g2.trans g3)) hx, hd, fun H' v s r => K ι3 H' v (g1.trans (g2.trans (g3.trans (.same s)))) (rl3.grow s) r⟩
theorem RepFs.lookup {C : RC} {ι : List Addr} {M : Addr → Prop} {H : Hp} {f : Str} : ∀ {fs : List (Str × D)} {vfs : List (Str × V)}, RepFs C ι M H vfs fs → (fs.lookup f = none ∧ vfs.lookup f = none) ∨ ∃ d v, fs.lookup f = some d ∧ vfs.lookup f = some v ∧ Rep C ι M H v d
  | _, _, .nil => .inl ⟨rfl, rfl⟩
  | (y, d) :: fs, _, .cons (v := v) (vs := vs) r rs => by
    simp only [List.lookup_cons]
    by_cases e : f == y
    · rw [e]; exact .inr ⟨d, v, rfl, rfl, r⟩
    · rw [Bool.not_eq_true] at e
      rw [e]; exact RepFs.lookup rs
theorem e_att {f : Str} (G : Gd tb Φ x N j S X) (ha : PE X ea (tE tb Φ S a)) (hp : baseP ea = true) : PE X (.Attribute ea f pos) (tE tb Φ S (.att a f)) := by
  refine PE.imp (pe_fld ha (base_plain hp)) fun σ H Q ⟨ι, e, h, rl, d, h', eq, K⟩ => ?_
  obtain ⟨dx, h1, e1, eq⟩ := bind_ok eq
  refine ⟨ι, e, h, rl, dx, h1, e1, fun ι1 H1 v1 g1 rl1 r1 => ?_⟩
  cases hv : view dx h1 with
  | none => rw [hv] at eq; cases eq
  | some dv =>
    rw [hv] at eq
    have rv := rl1.view r1 hv
    cases rv <;> first | (cases eq; done) | skip
    rename_i ad c dx' vfs fs hr hfs
    obtain ⟨hc, eq⟩ := ite_ok eq
    obtain ⟨hd, rfl⟩ := of_ok eq
    have hca : S.C.ca = x.ca := by rw [G.C]
    have hK : S.C.K = X.K := by rw [G.C]
    rcases hfs.lookup (f := f) with ⟨z, _⟩ | ⟨d', v, h2, h3, h4⟩
    · have hd' : fs.lookup f = some d := hd
      rw [z] at hd'; cases hd'
    · have hd' : fs.lookup f = some d := hd
      rw [h2] at hd'
      cases hd'
      refine ⟨ad, _, dx', vfs, v, rfl, hr, ?_, ?_, h3, K ι1 H1 v g1 rl1 h4⟩
      · rw [hca, ← hK]; exact (G.tx.cls c).cl
      · rw [hca, ← hK]; exact G.tx.fld c f hc
end
end MP

set_option maxRecDepth 100000
set_option maxHeartbeats 1000000
/-! MP13: calls, tests. -/
namespace MP
open PySem PySem.Spec PyProof.Rows L2

section
variable {x : Tx} {N : List Str}
theorem chkL_plain {sc : Scope} : ∀ {l : Ms} {es : List Expr}, chkL x N sc l es = true → es.all plainA = true
  | .nil, [], _ => rfl
  | .cons m l, e :: es, h => by
    have h' : (plainA e && chk x N sc m e && chkL x N sc l es) = true := h
    simp only [Bool.and_eq_true] at h'
    show (plainA e && es.all plainA) = true
    rw [h'.1.1, chkL_plain h'.2]; rfl
  | .nil, _ :: _, h => by cases h
  | .cons _ _, [], h => by cases h
theorem plain_all {es : List Expr} {env : Env} (h : es.all plainA = true) : starEach es env = es.map fun e => (false, eval e env) := by
  induction es with
  | nil => rfl
  | cons e es ih =>
    have h' : (plainA e && es.all plainA) = true := h
    rw [Bool.and_eq_true] at h'
    rw [plain_star h'.1, ih h'.2]
    rfl
theorem plain_any {es : List Expr} {env : Env} {pos : Pos} (h : es.all plainA = true) : (backTo pos (starEach es env)).any (·.1) = false := by
  rw [plain_all h]
  unfold backTo
  simp
theorem plain_form {es : List Expr} {env : Env} {pos : Pos} (h : es.all plainA = true) (hl : es.length < 30) : methodCallForm (es.length + ([] : List Keyword).length) (backTo pos (starEach es env)) (backToKw pos (keywordEach [] env)) = true := by
  rw [plain_all h]
  unfold methodCallForm backTo backToKw keywordEach
  simp [hl]
theorem meth_form {o : Expr} {es : List Expr} {m : Str} {env : Env} {apos pos : Pos} (hp : baseP o = true) (h : es.all plainA = true) (hl : es.length < 30) (hn : (apos.endLine == pos.line) = true) :
    eval (.Call (.Attribute o m apos) es [] pos) env = (do
      let ov ← eval o env
      standAt apos.atName
      let (f, first) ← holding [ov] (getMethod ov m (do return (← importBound o env).getD true))
      callWith pos f first (backTo pos (starEach es env)) (backToKw pos (keywordEach [] env))) := by
  show (do
    let ov ← attributeBase o m env (eval o env)
    standAt apos.atName
    methodCall o m apos pos env ov (es.length + ([] : List Keyword).length) (backTo pos (starEach es env)) (backToKw pos (keywordEach [] env))) = _
  rw [base_plain hp]
  refine congrArg (fun k => eval o env >>= k) (funext fun ov => congrArg (fun k => standAt apos.atName >>= k) (funext fun _ => ?_))
  unfold methodCall
  rw [plain_form h hl]
  unfold methodCallPos
  rw [hn]
  rfl
end

section
variable {tb : Tb} {Φ : Nat → List D → MH → R D} {x : Tx} {N : List Str} {j : Nat} {S : SC} {X : Cx} {sc : Scope} {e ea eb ec : Expr} {es : List Expr} {a b c m : M} {pos p p2 apos : Pos} {y : Str}

theorem pass0 : Passes cx0 X (fun _ _ _ => False) := fun _ _ _ _ _ _ _ h => h.elim
/-- a def's call within a scene -/
theorem sp_of {ι : List Addr} {e : Ev} {h h' : MH} {σ : L2.St} {H : Hp} {vs : List V} {ds : List D} {d : D} {f np : Nat} {fr : Bool} {Q : VK} {E : XK} (rl : Rel S ι e h σ H) (r : Reps S.C ι (Mu S.M0 ι e σ) H vs ds) (hn : vs.length = np) (eq : Φ f ds h = .ok d h')
    (K : ∀ ι' H' v, Go ι (Mu S.M0 ι e σ) H ι' (Mu S.M0 ι' e σ) H' → Rel S ι' e h' σ H' → Rep S.C ι' (Mu S.M0 ι' e σ) H' v d → Q v H') : spF S.C np fr (Φ f) vs H (fun v H1 => LockQ (Q v) H1) E :=
  ⟨hn, ι, _, ds, h, d, h', rl.scn, r, eq, fun ι' H' v A rv nw => by
    cases fr with
    | false => exact .done (K ι' H' v A.mu (A.rel rl) ((rv rfl).go A.less))
    | true =>
      obtain ⟨p, rfl, hp, ni, g, rl', c⟩ := A.newP rl (nw rfl)
      exact F_rep rl hp ni g rl' c fun H2 g2 rl2 r2 => K ι' H2 _ g2 rl2 r2⟩
/-- .. whose result nothing else knows -/
theorem sp_ofF {ι : List Addr} {e : Ev} {h h' : MH} {σ : L2.St} {H : Hp} {vs : List V} {ds : List D} {d : D} {f np : Nat} {Q : VK} {E : XK} (rl : Rel S ι e h σ H) (r : Reps S.C ι (Mu S.M0 ι e σ) H vs ds) (hn : vs.length = np) (eq : Φ f ds h = .ok d h')
    (K : ∀ ι' H' p, H p = none → p ∉ ι' → Go ι (Mu S.M0 ι e σ) H ι' (Mu (SP1 S p).M0 ι' e σ) H' → Rel (SP1 S p) ι' e h' σ H' → ContAt S.C ι' (Mu (SP1 S p).M0 ι' e σ) H' p d → Q (.ref p) H') : spF S.C np true (Φ f) vs H Q E :=
  ⟨hn, ι, _, ds, h, d, h', rl.scn, r, eq, fun ι' H' v A rv nw => by
    obtain ⟨p, rfl, hp, ni, g, rl', c⟩ := A.newP rl (nw rfl)
    exact K ι' H' p hp ni g rl' c⟩
theorem nil_of {l : Ms} {σ : L2.St} {H : Hp} {P : List V → Hp → Prop} (hz : l = .nil) (q : tEs tb Φ S l σ H P) : P [] H := by
  subst hz
  obtain ⟨ι, e, h, rl, ds, h', eq, K⟩ := q
  cases eq
  exact K ι H [] .refl rl .nil
theorem e_call0 {f : Nat} {l : Ms} {dus : List Value} {dvs : List V} (G : Gd tb Φ x N j S X) (hs : X.env.scope = sc) (h1 : x.fnN f = some y) (h2 : glB sc y = true) (h3 : dbgOk y = true) (hb : Binds X.K (x.fdat f) (x.fps f) dus) (hd : Vals dvs dus) (hl : PA X es (tEs tb Φ S l)) (hz : es = [] → l = .nil) (hp : es.all plainA = true) :
    PE X (.Call (.Name y p) es [] pos) (tCall (spF S.C (x.fps f).length (x.frs f) (Φ f)) dvs (fun _ _ _ => False) (tEs tb Φ S l)) := by
  obtain ⟨hm, hk⟩ := G.tx.fn f y h1
  have hK : S.C.K = X.K := by rw [G.C]
  rw [hK] at hk
  have hr : Room j X.A := G.room.mono (Nat.le_succ j)
  cases es with
  | nil => exact PE.imp (pe_call0 (G.fn f) hr (glB_of h2 hs) hm hk hb hd pass0 (dbg1 h3)) fun σ H Q q => nil_of (hz rfl) q
  | cons e es =>
    have h' : (plainA e && es.all plainA) = true := hp
    rw [Bool.and_eq_true] at h'
    exact pe_call (G.fn f) hr (glB_of h2 hs) hm hk hb hd pass0 hl (dbg1 h3) (plain_star h'.1) (plain_any h'.2)
/-- so many arguments are evaluated -/
theorem evs_len : ∀ {l : Ms} {e : Ev} {h : MH} {ds : List D} {h' : MH}, evs tb Φ l e h = .ok ds h' → ds.length = l.len
  | .nil, e, h, ds, h', q => by cases q; rfl
  | .cons m l, e, h, ds, h', q => by
    obtain ⟨d, h1, _, q⟩ := bind_ok q
    obtain ⟨ds', h2, e2, q⟩ := bind_ok q
    cases q
    exact congrArg (· + 1) (evs_len e2)
theorem e_call {f : Nat} {l : Ms} (G : Gd tb Φ x N j S X) (np : ∀ f ds h d h', Φ f ds h = .ok d h' → ds.length = (x.fps f).length) (hs : X.env.scope = sc) (h1 : x.fnN f = some y) (h2 : glB sc y = true) (h3 : dbgOk y = true) (hl : PA X es (tEs tb Φ S l)) (hz : es = [] → l = .nil) (hp : es.all plainA = true) :
    PE X (.Call (.Name y p) es [] pos) (tE tb Φ S (.call f l)) := by
  have hK : S.C.K = X.K := by rw [G.C]
  by_cases hq : l.len + (tb.dfl f l.len).length = (x.fps f).length
  · obtain ⟨dus, dvs, hb, hd, hr⟩ := G.tx.bndD f l.len hq
    rw [hK] at hb
    refine PE.imp (PE.lock (e_call0 G hs h1 h2 h3 hb hd hl hz hp)) fun σ H Q ⟨ι, e, h, rl, d, h', eq, K⟩ => ?_
    obtain ⟨ds, h1, e1, eq⟩ := bind_ok eq
    have el := evs_len e1
    rw [el] at eq
    refine ⟨ι, e, h, rl, ds, h1, e1, fun ι1 H1 vs g1 rl1 r1 => ?_⟩
    have rr := r1.append (hr ι1 (Mu S.M0 ι1 e σ) H1)
    exact sp_of rl1 rr (by rw [rr.length]; exact np _ _ _ _ _ eq) eq fun ι' H' v g rl' r => K ι' H' v (g1.trans g) rl' r
  · refine ⟨fun pins s σ H Q I ⟨ι, e, h, rl, d, h', eq, K⟩ => ?_⟩
    obtain ⟨ds, h1, e1, eq⟩ := bind_ok eq
    have q := np _ _ _ _ _ eq
    rw [List.length_append, evs_len e1] at q
    exact absurd q hq
theorem e_callF {f : Nat} {l : Ms} (G : Gd tb Φ x N j S X) (np : ∀ f ds h d h', Φ f ds h = .ok d h' → ds.length = (x.fps f).length) (hs : X.env.scope = sc) (h1 : x.fnN f = some y) (h2 : glB sc y = true) (h3 : dbgOk y = true) (hl : PA X es (tEs tb Φ S l)) (hz : es = [] → l = .nil) (hp : es.all plainA = true) (hf : x.frs f = true) :
    PE X (.Call (.Name y p) es [] pos) (tF tb Φ S (.call f l)) := by
  have hK : S.C.K = X.K := by rw [G.C]
  by_cases hq : l.len + (tb.dfl f l.len).length = (x.fps f).length
  · obtain ⟨dus, dvs, hb, hd, hr⟩ := G.tx.bndD f l.len hq
    rw [hK] at hb
    refine PE.imp (e_call0 G hs h1 h2 h3 hb hd hl hz hp) fun σ H Q ⟨ι, e, h, rl, d, h', eq, K⟩ => ?_
    obtain ⟨ds, h1, e1, eq⟩ := bind_ok eq
    have el := evs_len e1
    rw [el] at eq
    refine ⟨ι, e, h, rl, ds, h1, e1, fun ι1 H1 vs g1 rl1 r1 => ?_⟩
    have rr := r1.append (hr ι1 (Mu S.M0 ι1 e σ) H1)
    rw [hf]
    exact sp_ofF rl1 rr (by rw [rr.length]; exact np _ _ _ _ _ eq) eq fun ι' H' p hp ni g rl' c => K ι' H' p (g1.back hp) ni (g1.trans g) rl' c
  · refine ⟨fun pins s σ H Q I ⟨ι, e, h, rl, d, h', eq, K⟩ => ?_⟩
    obtain ⟨ds, h1, e1, eq⟩ := bind_ok eq
    have q := np _ _ _ _ _ eq
    rw [List.length_append, evs_len e1] at q
    exact absurd q hq

/-! methods: the class is known as the code runs -/
def tMthD (X : Cx) (C : RC) (x : Tx) (Φ : Nat → List D → MH → R D) (m : Str) (ta : TE) (t : TA) : TE := fun σ H Q => ta σ H fun v H1 => ∃ a Ca dx fs f, v = .ref a ∧ H1 a = some (.ins Ca dx fs) ∧ fs.lookup m = none ∧ Cls X.K Ca ∧ Meth X.K Ca m (x.fa f) ∧
  t σ H1 fun vs H2 => spF C (x.fps f).length (x.frs f) (Φ f) (v :: vs) H2 Q fun _ _ _ => False
theorem pe_mthD {o : Expr} {ta : TE} {t : TA} {ms : Str} (G : Gd tb Φ x N j S X) (he : PE X o ta) (ha : PA X es t) (hz : es = [] → ∀ σ H P, t σ H P → P [] H) (hb : baseP o = true) (hp : es.all plainA = true) (hn : es.length < 30) (hl : (apos.endLine == pos.line) = true) :
    PE X (.Call (.Attribute o ms apos) es [] pos) (tMthD X S.C x Φ ms ta t) := by
  have hK : S.C.K = X.K := by rw [G.C]
  have hr : Room j X.A := G.room.mono (Nat.le_succ j)
  refine ⟨fun pins s σ H Q I h => ?_⟩
  refine PySem.W.methodCall_KW (thn (he.run pins s σ H _ I h) fun u s1 ⟨v, H1, I1, rx, a, Ca, dx, fs, f, ex, ea, l, c, hm, q⟩ => ?_) (meth_form hb hp hn hl)
  subst ex
  obtain rfl : u = Value.ref a := rx
  refine getmeth_ok I1 ea c hm l ?_
  have hbd : Binds X.K (x.fdat f) (x.fps f) [] := by rw [← hK]; exact G.tx.bnd f
  cases es with
  | nil =>
    refine PySem.W.callWith_K0 (first := [.ref a]) I1.kIn hm.kp (run_fn (us := [.ref a]) (vs := [.ref a]) (G.fn f) hr hbd .nil pass0 I1 (.cons rfl .nil) ?_)
    exact hz rfl _ _ _ q
  | cons e es =>
    have h' : (plainA e && es.all plainA) = true := hp
    rw [Bool.and_eq_true] at h'
    refine PySem.W.callWith_K (first := [.ref a]) (h₀ := X.base) I.ok.mod.kin hm.kp (thn (ha.run pos pins s1 σ H1 _ I1 q) fun us s2 ⟨vs, H2, I2, r, q2⟩ => ⟨I2.kIn, ?_⟩) (plain_star h'.1) (plain_any h'.2)
    refine run_fn (us := .ref a :: us) (vs := .ref a :: vs) (G.fn f) hr hbd .nil pass0 I2 (.cons rfl r) ?_
    show spF S.C _ _ _ (V.ref a :: vs ++ []) H2 Q _
    rw [List.append_nil]
    exact q2
theorem e_mth {o : M} {eo : Expr} {ms : Str} {l : Ms} (G : Gd tb Φ x N j S X) (np : ∀ f ds h d h', Φ f ds h = .ok d h' → ds.length = (x.fps f).length) (ho : PE X eo (tE tb Φ S o)) (hl : PA X es (tEs tb Φ S l)) (hz : es = [] → l = .nil) (hb : baseP eo = true) (hp : es.all plainA = true) (hn : es.length < 30) (hln : (apos.endLine == pos.line) = true) :
    PE X (.Call (.Attribute eo ms apos) es [] pos) (tE tb Φ S (.mth o ms l)) := by
  refine PE.imp (PE.lock (pe_mthD G ho hl (fun z σ H P q => nil_of (hz z) q) hb hp hn hln)) fun σ H Q ⟨ι, e, h, rl, d, h', eq, K⟩ => ?_
  obtain ⟨dx, h1, e1, eq⟩ := bind_ok eq
  refine ⟨ι, e, h, rl, dx, h1, e1, fun ι1 H1 v1 g1 rl1 r1 => ?_⟩
  cases hv : view dx h1 with
  | none => rw [hv] at eq; cases eq
  | some dv =>
    rw [hv] at eq
    have rv := rl1.view r1 hv
    cases rv <;> first | (cases eq; done) | skip
    rename_i ad c dx' vfs fs hr hfs
    have eq : (match fget fs ms, tb.meth c ms with
      | none, some f => (evs tb Φ l e h1).bind fun ds h => Φ f (dx :: ds) h
      | _, _ => .no) = R.ok d h' := eq
    cases hg : fget fs ms with
    | some _ => rw [hg] at eq; cases eq
    | none =>
      cases hm : tb.meth c ms with
      | none => rw [hg, hm] at eq; cases eq
      | some f =>
        rw [hg, hm] at eq
        obtain ⟨ds, h2, e2, eq⟩ := bind_ok eq
        have hca : S.C.ca = x.ca := by rw [G.C]
        have hK : S.C.K = X.K := by rw [G.C]
        have hlk : vfs.lookup ms = none := by
          rcases hfs.lookup (f := ms) with ⟨_, z⟩ | ⟨d', v, h2, h3, h4⟩
          · exact z
          · have hd' : fs.lookup ms = none := hg
            rw [h2] at hd'; cases hd'
        refine ⟨ad, _, dx', vfs, f, rfl, hr, hlk, ?_, ?_, ?_⟩
        · rw [hca, ← hK]; exact (G.tx.cls c).cl
        · rw [hca, ← hK]; exact G.tx.mt c ms f hm
        · refine ⟨ι1, e, h1, rl1, ds, h2, e2, fun ι2 H2 vs g2 rl2 r2 => ?_⟩
          exact sp_of rl2 (.cons (r1.go g2) r2) (by rw [List.length_cons, r2.length]; exact np _ _ _ _ _ eq) eq fun ι' H' v g rl' r => K ι' H' v (g1.trans (g2.trans g)) rl' r

/-! a[i], with an own class's __getitem__ -/
/-- an own method of an object, called by the machine -/
def rOwn (X : Cx) (C : RC) (x : Tx) (Φ : Nat → List D → MH → R D) (m : Str) (v : V) (vs : List V) (H : Hp) (Q : VK) : Prop := ∃ a Ca dx fs f, v = .ref a ∧ H a = some (.ins Ca dx fs) ∧ Cls X.K Ca ∧ Meth X.K Ca m (x.fa f) ∧ PySem.W.fnIn X.K (x.fa f) = true ∧
  spF C (x.fps f).length (x.frs f) (Φ f) (v :: vs) H Q fun _ _ _ => False
theorem Env0.in1 {P : Program} {w : World} {K : PySem.W.Frag} {mg : Str → Option Value} {base : Heap} {A : Around} {outer : List Env} {s : Shared} {H : Hp} (e : Env0 P w K mg base A outer s H) : Env0 P w K mg base A.in1 outer s H :=
  ⟨e.frames, e.mod, e.bs, e.bsz, e.funs, e.frf, e.hok, e.bare⟩
theorem run_in1 {pins : List (Addr × Obj)} {σ : L2.St} {H : Hp} {s : Shared} {Q : VK} {us : List Value} {vs : List V} {f : Addr} {fd : FuncData} {ps : List Str} {sp : Sp} {k : Nat} (F : FnOk X.prog X.w X.K X.mg X.base cx0 k f fd ps sp) (hr : Room k X.A.in1) (hb : Binds X.K fd ps [])
    (I : Inv X pins σ H s) (r : Vals vs us) (h : sp vs H Q fun _ _ _ => False) : wpAny (model X.prog X.w) X.A.in1 (call (.ref f) us) (EP X pins σ Q) X.xe s := by
  have hl : us.length = ps.length := by rw [← r.length]; exact F.len _ _ _ _ h
  have hb' := hb s us I.kIn (by rw [List.append_nil]; exact hl)
  rw [List.append_nil] at hb'
  refine wpAny_call (codeAny_mono (F.run X.A.in1 X.stack s H ⟨us, []⟩ us vs Q _ hr (Env0.in1 I.env0) hb' r h) fun res s' hq => ?_)
  rcases res with e | fl
  · exact (pass0 (X := X) pins σ H s e s' I hq)
  · cases fl <;> first | exact I.after hq | exact hq.elim
theorem pe_ixO {a b : Expr} {ta tb' : TE} {r : R2} (G : Gd tb Φ x N j S X) (hr : IxR X r) (ha : PE X a ta) (hb : PE X b tb') (hp : plainA b = true) : PE X (.Subscript a b pos) (tOp (fun v w H Q => r v w H Q ∨ rOwn X S.C x Φ "__getitem__" v [w] H Q) ta tb') := by
  have hK : S.C.K = X.K := by rw [G.C]
  refine ⟨fun pins s σ H Q I h => Subscript_ (binT ha hb I h fun v u s2 vx vy H2 I2 rx ry q => ?_)⟩
  rcases q with q | ⟨ad, Ca, dx, fs, f, ex, ea, c, m, hf, q⟩
  · exact hr a b pins s2 σ H2 vx vy v u Q I2 rx ry q (plain_ix hp _ _)
  · subst ex
    obtain rfl : v = Value.ref ad := rx
    obtain ⟨mA, O, _⟩ := ins_get I2.hok ea
    obtain ⟨od, J, _⟩ := O.look
    obtain ⟨mm, F⟩ := I2.fr
    have hbd : Binds X.K (x.fdat f) (x.fps f) [] := by rw [← hK]; exact G.tx.bnd f
    exact PySem.W.sub_K F I2.mod.kin J m.at_ hf m.fn (run_in1 (us := [.ref ad, u]) (vs := [.ref ad, vy]) (G.fn f) G.room.in1 hbd I2 (.cons rfl (.cons ry .nil)) q) (by cases b <;> first | rfl | cases hp)
theorem own_core {ι : List Addr} {e : Ev} {h h' : MH} {σ : L2.St} {H : Hp} {m : Str} {v : V} {vs : List V} {dx d : D} {ds : List D} {c f : Nat} {fs : List (Str × D)} {Q : VK} (G : Gd tb Φ x N j S X) (np : ∀ f ds h d h', Φ f ds h = .ok d h' → ds.length = (x.fps f).length) (rl : Rel S ι e h σ H)
    (r1 : Rep S.C ι (Mu S.M0 ι e σ) H v dx) (hv : view dx h = some (.ins c fs)) (hm : tb.meth c m = some f) (rs : Reps S.C ι (Mu S.M0 ι e σ) H vs ds) (eq : Φ f (dx :: ds) h = .ok d h')
    (K : ∀ ι' H' v, Go ι (Mu S.M0 ι e σ) H ι' (Mu S.M0 ι' e σ) H' → Rel S ι' e h' σ H' → Rep S.C ι' (Mu S.M0 ι' e σ) H' v d → Q v H') : rOwn X S.C x Φ m v vs H (fun v H1 => LockQ (Q v) H1) := by
  have rv := rl.view r1 hv
  cases rv
  rename_i ad dx' vfs hr hfs
  have hca : S.C.ca = x.ca := by rw [G.C]
  have hK : S.C.K = X.K := by rw [G.C]
  refine ⟨ad, _, dx', vfs, f, rfl, hr, ?_, ?_, ?_, ?_⟩
  · rw [hca, ← hK]; exact (G.tx.cls c).cl
  · rw [hca, ← hK]; exact G.tx.mt c m f hm
  · rw [← hK]; exact G.tx.mfn c m f hm
  · exact sp_of rl (.cons r1 rs) (by rw [List.length_cons, rs.length]; exact np _ _ _ _ _ eq) eq K
theorem ownO_core {ι : List Addr} {e : Ev} {h h' : MH} {σ : L2.St} {H : Hp} {m : Str} {v : V} {vs : List V} {xo : Od} {d : D} {ds : List D} {c : Nat} {fs : List (Str × D)} {Q : VK} (G : Gd tb Φ x N j S X) (np : ∀ f ds h d h', Φ f ds h = .ok d h' → ds.length = (x.fps f).length) (rl : Rel S ι e h σ H)
    (r1 : ORep S ι e σ H v xo) (hv : vo e h xo = some (.ins c fs)) (rs : Reps S.C ι (Mu S.M0 ι e σ) H vs ds) (eq : ownR tb Φ c m xo ds h = .ok d h')
    (K : ∀ ι' H' v, Go ι (Mu S.M0 ι e σ) H ι' (Mu S.M0 ι' e σ) H' → Rel S ι' e h' σ H' → Rep S.C ι' (Mu S.M0 ι' e σ) H' v d → Q v H') : rOwn X S.C x Φ m v vs H (fun v H1 => LockQ (Q v) H1) := by
  cases xo with
  | own i => cases eq
  | d o =>
    unfold ownR at eq
    cases hm : tb.meth c m with
    | none => rw [hm] at eq; cases eq
    | some f => rw [hm] at eq; exact own_core G np rl r1 hv hm rs eq K
theorem e_idx (G : Gd tb Φ x N j S X) (np : ∀ f ds h d h', Φ f ds h = .ok d h' → ds.length = (x.fps f).length) (ha : PE X ea (tO tb Φ S a)) (hb : PE X eb (tE tb Φ S b)) (hp : plainA eb = true) : PE X (.Subscript ea eb pos) (tE tb Φ S (.idx a b)) := by
  have bo : IxR X (rIdx S.C idxD) := by rw [G.C]; exact idx_ok G.hu
  refine PE.imp (PE.lock (pe_ixO G bo ha hb hp)) fun σ H Q ⟨ι, e, h, rl, d, h', eq, K⟩ => ?_
  obtain ⟨xo, h1, e1, eq⟩ := bind_ok eq
  obtain ⟨dy, h2, e2, eq⟩ := bind_ok eq
  refine ⟨ι, e, h, rl, xo, h1, e1, fun ι1 H1 v1 g1 rl1 r1 => ⟨ι1, e, h1, rl1, dy, h2, e2, fun ι2 H2 v2 g2 rl2 r2 => ?_⟩⟩
  cases hx : vo e h2 xo with
  | none => rw [hx] at eq; cases eq
  | some dx =>
    rw [hx] at eq
    have plain : MP.R.of (idxD dx dy) h2 = MP.R.ok d h' → rIdx S.C idxD v1 v2 H2 (fun v H1 => LockQ (Q v) H1) := fun eq => by
      obtain ⟨hd, rfl⟩ := of_ok eq
      exact ⟨ι2, _, dx, dy, d, rl2.known, rl2.vo (r1.go g2) hx, r2, hd, fun v r => .done (K ι2 H2 v (g1.trans g2) rl2 r)⟩
    cases dx with
    | ins c fs =>
      have eq : ownR tb Φ c "__getitem__" xo [dy] h2 = MP.R.ok d h' := eq
      exact .inr (ownO_core G np rl2 (r1.go g2) hx (.cons r2 .nil) eq fun ι' H' v g rl' r => K ι' H' v (g1.trans (g2.trans g)) rl' r)
    | _ => exact .inl (plain eq)

/-! built-ins -/
theorem vos_ok {ι : List Addr} {e : Ev} {h : MH} {σ : L2.St} {H : Hp} (rl : Rel S ι e h σ H) : ∀ {vs : List V} {os : List Od} {ds : List D}, OReps S ι e σ H vs os → vos e h os = some ds → VReps S.C ι (Mu S.M0 ι e σ) H vs ds
  | _, _, _, .nil, q => by cases q; exact .nil
  | _, _, _, .cons (x := o) (xs := os) r rs, q => by
    have q' : (match vo e h o, vos e h os with
      | some d, some l => some (d :: l)
      | _, _ => none) = some _ := q
    cases h1 : vo e h o with
    | none => rw [h1] at q'; cases q'
    | some d =>
      cases h2 : vos e h os with
      | none => rw [h1, h2] at q'; cases q'
      | some l => rw [h1, h2] at q'; cases q'; exact .cons (rl.vo r h1) (vos_ok rl rs h2)
theorem glo1_of {n : Str} (h : glo1 x sc y n = true) : y = n ∧ glB sc y = true ∧ x.free n = true := by
  unfold glo1 at h
  rw [Bool.and_eq_true, Bool.and_eq_true] at h
  exact ⟨of_decide_eq_true h.1.1, h.1.2, h.2⟩
theorem blt_core {bl : Blt} {l : Ms} {σ : L2.St} {H : Hp} {Q : VK} (q : tE tb Φ S (.blt bl l) σ H Q) : tCB (rC S.C (bltD bl)) (tOs tb Φ S l) σ H Q := by
  obtain ⟨ι, e, h, rl, d, h', eq, K⟩ := q
  obtain ⟨os, h1, e1, eq⟩ := bind_ok eq
  refine ⟨ι, e, h, rl, os, h1, e1, fun ι1 H1 vs g1 rl1 r1 => ?_⟩
  cases hv : vos e h1 os with
  | none => rw [hv] at eq; cases eq
  | some ds =>
    rw [hv] at eq
    obtain ⟨hd, rfl⟩ := of_ok eq
    exact ⟨ι1, _, ds, d, rl1.known, vos_ok rl1 r1 hv, hd, fun H' v s r => K ι1 H' v (g1.trans (.same s)) (rl1.grow s) r⟩
theorem bltF_core {bl : Blt} {l : Ms} {σ : L2.St} {H : Hp} {Q : VK} (q : tF tb Φ S (.blt bl l) σ H Q) : tCB (rCF S.C (bltD bl)) (tOs tb Φ S l) σ H Q := by
  obtain ⟨ι, e, h, rl, d, h', eq, K⟩ := q
  obtain ⟨os, h1, e1, eq⟩ := bind_ok eq
  refine ⟨ι, e, h, rl, os, h1, e1, fun ι1 H1 vs g1 rl1 r1 => ?_⟩
  cases hv : vos e h1 os with
  | none => rw [hv] at eq; cases eq
  | some ds =>
    rw [hv] at eq
    obtain ⟨hd, rfl⟩ := of_ok eq
    refine ⟨ι1, _, ds, d, rl1.known, vos_ok rl1 r1 hv, hd, fun p o hp c => ?_⟩
    have gn : Go ι1 (Mu S.M0 ι1 e σ) H1 ι1 (Mu (SP1 S p).M0 ι1 e σ) (upd H1 p o) := goNew hp
    exact K ι1 _ p (g1.back hp) (rl1.notin hp) (g1.trans gn) (rl1.plusNew hp) (c _ gn)
theorem e_bltF {bl : Blt} {l : Ms} (G : Gd tb Φ x N j S X) (hs : X.env.scope = sc) (h1 : glo1 x sc y (bltN bl) = true) (hl : PA X (e :: es) (tOs tb Φ S l)) (hp : (e :: es).all plainA = true) (hb : freshBlt bl = true) : PE X (.Call (.Name y p) (e :: es) [] pos) (tF tb Φ S (.blt bl l)) := by
  obtain ⟨rfl, h2, h3⟩ := glo1_of h1
  have h' : (plainA e && es.all plainA) = true := hp
  rw [Bool.and_eq_true] at h'
  have hm := G.tx.fre _ h3
  have hg : Gl X (bltN bl) := glB_of h2 hs
  have hc : CallR X (bltV bl) (rCF S.C (bltD bl)) := by rw [G.C]; exact bltF_ok G.calm bl hb
  refine PE.imp ?_ fun σ H Q q => bltF_core q
  have st := plain_star (env := X.env) (es := es) h'.1
  have pl := plain_any (env := X.env) (pos := pos) h'.2
  cases bl <;> first | (cases hb; done) | skip
  · exact pe_callTy hc hg hm boot_list hl (by decide) (by decide) st pl
  · exact pe_callTy hc hg hm boot_dict hl (by decide) (by decide) st pl
theorem e_blt {bl : Blt} {l : Ms} (G : Gd tb Φ x N j S X) (hs : X.env.scope = sc) (h1 : glo1 x sc y (bltN bl) = true) (hl : PA X (e :: es) (tOs tb Φ S l)) (hp : (e :: es).all plainA = true) : PE X (.Call (.Name y p) (e :: es) [] pos) (tE tb Φ S (.blt bl l)) := by
  by_cases hb : freshBlt bl = true
  · exact PE.ofF (e_bltF G hs h1 hl hp hb)
  have hb : freshBlt bl = false := by simpa using hb
  obtain ⟨rfl, h2, h3⟩ := glo1_of h1
  have h' : (plainA e && es.all plainA) = true := hp
  rw [Bool.and_eq_true] at h'
  have hm := G.tx.fre _ h3
  have hg : Gl X (bltN bl) := glB_of h2 hs
  have hc : CallR X (bltV bl) (rC S.C (bltD bl)) := by rw [G.C]; exact blt_ok G.calm bl hb
  refine PE.imp ?_ fun σ H Q q => blt_core q
  have st := plain_star (env := X.env) (es := es) h'.1
  have pl := plain_any (env := X.env) (pos := pos) h'.2
  cases bl <;> first | (cases hb; done) | skip
  · exact pe_callB hc hg hm boot_len hl (by decide) (by decide) st pl
  · exact pe_callTy hc hg hm boot_int hl (by decide) (by decide) st pl
  · exact pe_callTy hc hg hm boot_tuple hl (by decide) (by decide) st pl
  · exact pe_callB hc hg hm boot_abs hl (by decide) (by decide) st pl
  · exact pe_callB hc hg hm boot_max hl (by decide) (by decide) st pl
  · exact pe_callB hc hg hm boot_min hl (by decide) (by decide) st pl
  · exact pe_callTy hc hg hm boot_str hl (by decide) (by decide) st pl
  · exact pe_callTy hc hg hm boot_bool hl (by decide) (by decide) st pl
  · exact pe_callB hc hg hm boot_all hl (by decide) (by decide) st pl
theorem ty_name {t : Ty} {z : Str} {pz : Pos} (G : Gd tb Φ x N j S X) (hs : X.env.scope = sc) (h1 : tyN x t = some z) (h2 : glB sc z = true) (h3 : dbgOk z = true) (h4 : tyFree x t = true) : PE X (.Name z pz) (tC (tyV x.ca t)) := by
  have hg : Gl X z := glB_of h2 hs
  cases t with
  | cls c => exact pe_glob hg (G.tx.cl c z h1) rfl (dbg1 h3)
  | int => cases h1; exact pe_bltn hg (G.tx.fre _ h4) boot_int rfl (by decide) (by decide)
  | str => cases h1; exact pe_bltn hg (G.tx.fre _ h4) boot_str rfl (by decide) (by decide)
  | bool => cases h1; exact pe_bltn hg (G.tx.fre _ h4) boot_bool rfl (by decide) (by decide)
  | list => cases h1; exact pe_bltn hg (G.tx.fre _ h4) boot_list rfl (by decide) (by decide)
  | tuple => cases h1; exact pe_bltn hg (G.tx.fre _ h4) boot_tuple rfl (by decide) (by decide)
theorem e_isi {t : Ty} {z : Str} {pz : Pos} (G : Gd tb Φ x N j S X) (hs : X.env.scope = sc) (h1 : glo1 x sc y "isinstance" = true) (hp : plainA ea = true) (ha : PE X ea (tO tb Φ S a)) (h5 : tyN x t = some z) (h6 : glB sc z = true) (h7 : dbgOk z = true) (h8 : tyFree x t = true) :
    PE X (.Call (.Name y p) [ea, .Name z pz] [] pos) (tE tb Φ S (.isi a t)) := by
  obtain ⟨rfl, h2, h3⟩ := glo1_of h1
  have hca : S.C.ca = x.ca := by rw [G.C]
  have hK : S.C.K = X.K := by rw [G.C]
  refine PE.imp (pe_callB call_isi (glB_of h2 hs) (G.tx.fre _ h3) boot_isinstance (pa_cons ha (pa_cons (ty_name G hs h5 h6 h7 h8) pa_nil (plain_star (e := .Name z pz) rfl)) (plain_star hp)) (by decide) (by decide) (plain_star hp) (plain_any (es := [.Name z pz]) rfl)) fun σ H Q ⟨ι, e, h, rl, d, h', eq, K⟩ => ?_
  obtain ⟨xo, h1, e1, eq⟩ := bind_ok eq
  refine ⟨ι, e, h, rl, xo, h1, e1, fun ι1 H1 v1 g1 rl1 r1 => ?_⟩
  cases hx : vo e h1 xo with
  | none => rw [hx] at eq; cases eq
  | some dx =>
    rw [hx] at eq
    obtain ⟨hd, rfl⟩ := of_ok eq
    obtain ⟨k, hk, rfl⟩ := Option.map_eq_some_iff.mp hd
    obtain ⟨tv, ty, hki⟩ := tyX_of (fun c => by rw [hca]; exact G.tx.cls c) (by rw [hca]; exact G.tx.ty) (rl1.vo r1 hx) hk
    rw [hK] at ty hki
    rw [hca] at hki
    exact ⟨v1, tyV x.ca t, tv, tyVal x.ca t, k, rfl, tyV_cls _ _, ty, hki, K ι1 H1 _ g1 rl1 (.bl k)⟩
theorem rng_reps {C : RC} {ι : List Addr} {M : Addr → Prop} {H : Hp} (lo hi : Int) : Reps C ι M H (rgV lo hi) (rngL lo hi) := by
  unfold rgV rngL
  induction List.range (hi - lo).toNat with
  | nil => exact .nil
  | cons k r ih => exact .cons (.int _) ih
theorem rng_len (lo hi : Int) : (rngL lo hi).length = (hi - lo).toNat := by unfold rngL; rw [List.length_map, List.length_range]
theorem rngOk_of {i : Int} (h : rngOk i = true) : -(2 ^ 62) ≤ i ∧ i < 2 ^ 62 := by
  have := of_decide_eq_true h
  omega
theorem e_lrng1F {z : Str} {pz p3 : Pos} (G : Gd tb Φ x N j S X) (hs : X.env.scope = sc) (h1 : glo1 x sc y "list" = true) (h2 : glo1 x sc z "range" = true) (hp : plainA ea = true) (ha : PE X ea (tE tb Φ S a)) :
    PE X (.Call (.Name y p) [.Call (.Name z pz) [ea] [] p3] [] pos) (tF tb Φ S (.lrng (.rng a))) := by
  obtain ⟨rfl, h3, h4⟩ := glo1_of h1
  obtain ⟨rfl, h5, h6⟩ := glo1_of h2
  refine PE.imp (pe_listRg G.calm (glB_of h3 hs) (G.tx.fre _ h4) (prg_1 (glB_of h5 hs) (G.tx.fre _ h6) ha (plain_star hp)) (plain_star (e := .Call (.Name "range" pz) [ea] [] p3) rfl)) fun σ H Q ⟨ι, e, h, rl, d, h', eq, K⟩ => ?_
  obtain ⟨ds, h1, e1, eq⟩ := bind_ok eq
  obtain ⟨dx, h2, e2, e1⟩ := bind_ok e1
  refine ⟨ι, e, h, rl, dx, h2, e2, fun ι1 H1 v1 g1 rl1 r1 => ?_⟩
  cases r1 <;> first | (cases e1; done) | skip
  rename_i i
  obtain ⟨hc, e1⟩ := ite_ok (show (if rngOk i then R.ok (rngL 0 i) h2 else .no) = R.ok ds h1 from e1)
  cases e1
  obtain ⟨hc2, eq⟩ := ite_ok eq
  cases eq
  obtain ⟨b1, b2⟩ := rngOk_of hc
  have hl : lim = 10000000 := rfl
  refine ⟨i, rfl, ⟨by omega, by omega, b1, b2, ?_⟩, fun p hp => K ι1 _ p ((g1).back hp) (rl1.notin hp) ((g1).trans (goNew hp)) (rl1.plusNew hp) (.lst upd_same (rng_reps 0 i))⟩
  rw [rng_len] at hc2
  omega
theorem e_lrng2F {z : Str} {pz p3 : Pos} (G : Gd tb Φ x N j S X) (hs : X.env.scope = sc) (h1 : glo1 x sc y "list" = true) (h2 : glo1 x sc z "range" = true) (hp : plainA ea = true) (hp2 : plainA eb = true) (ha : PE X ea (tE tb Φ S a)) (hb : PE X eb (tE tb Φ S b)) :
    PE X (.Call (.Name y p) [.Call (.Name z pz) [ea, eb] [] p3] [] pos) (tF tb Φ S (.lrng (.rng2 a b))) := by
  obtain ⟨rfl, h3, h4⟩ := glo1_of h1
  obtain ⟨rfl, h5, h6⟩ := glo1_of h2
  refine PE.imp (pe_listRg G.calm (glB_of h3 hs) (G.tx.fre _ h4) (prg_2 (glB_of h5 hs) (G.tx.fre _ h6) ha hb (plain_star hp) (plain_star hp2) (plain_any (es := [eb]) (by simp [hp2]))) (plain_star (e := .Call (.Name "range" pz) [ea, eb] [] p3) rfl)) fun σ H Q ⟨ι, e, h, rl, d, h', eq, K⟩ => ?_
  obtain ⟨ds, h1, e1, eq⟩ := bind_ok eq
  obtain ⟨dx, h2, e2, e4⟩ := bind_ok e1
  obtain ⟨dy, h3, e3, e5⟩ := bind_ok e4
  clear e1 e4
  refine ⟨ι, e, h, rl, dx, h2, e2, fun ι1 H1 v1 g1 rl1 r1 => ⟨ι1, e, h2, rl1, dy, h3, e3, fun ι2 H2 v2 g2 rl2 r2 => ?_⟩⟩
  cases r1 <;> first | (cases e5; done) | skip
  cases r2 <;> first | (cases e5; done) | skip
  rename_i i k
  obtain ⟨hc, e1⟩ := ite_ok (show (if (rngOk i && rngOk k) = true then R.ok (rngL i k) h3 else .no) = R.ok ds h1 from e5)
  cases e1
  obtain ⟨hc2, eq⟩ := ite_ok eq
  cases eq
  rw [Bool.and_eq_true] at hc
  obtain ⟨b1, b2⟩ := rngOk_of hc.1
  obtain ⟨b3, b4⟩ := rngOk_of hc.2
  have hl : lim = 10000000 := rfl
  refine ⟨i, k, rfl, rfl, ⟨b1, b2, b3, b4, ?_⟩, fun p hp => K ι2 _ p (((g1.trans g2)).back hp) (rl2.notin hp) (((g1.trans g2)).trans (goNew hp)) (rl2.plusNew hp) (.lst upd_same (rng_reps i k))⟩
  rw [rng_len] at hc2
  omega

/-! tests -/
theorem t_val (G : Gd tb Φ x N j S X) (ha : PE X ea (tO tb Φ S a)) (hp : testP ea = true) : PT X ea (tT tb Φ S (.v a)) := by
  refine PT.imp (pt_truth ha (test_plain hp)) fun σ H Q ⟨ι, e, h, rl, t, h', eq, K⟩ => ?_
  obtain ⟨xo, h1, e1, eq⟩ := bind_ok eq
  obtain ⟨eq, rfl⟩ := of_ok eq
  obtain ⟨dx, hx, ht⟩ := Option.bind_eq_some_iff.mp eq
  refine ⟨ι, e, h, rl, xo, h', e1, fun ι1 H1 v1 g1 rl1 r1 => ⟨t, ?_, K ι1 H1 g1 rl1⟩⟩
  have hK : S.C.K = X.K := by rw [G.C]
  rw [← hK]
  exact (rl1.vo r1 hx).tru ht
theorem t_and {ta tc : T} {rest : List Expr} (ha : PT X ea (tT tb Φ S ta)) (hb : PW X (.BoolOp .And (eb :: rest) pos) (tT tb Φ S tc)) : PW X (.BoolOp .And (ea :: eb :: rest) pos) (tT tb Φ S (.and ta tc)) := by
  refine ⟨fun wh pins s σ H Q I ⟨ι, e, h, rl, t, h', eq, K⟩ => (pw_and ha hb).run wh pins s σ H Q I ?_⟩
  obtain ⟨dx, h1, e1, eq⟩ := bind_ok eq
  refine ⟨ι, e, h, rl, dx, h1, e1, fun ι1 H1 g1 rl1 => ?_⟩
  cases dx with
  | true => exact ⟨ι1, e, h1, rl1, t, h', eq, fun ι2 H2 g2 rl2 => K ι2 H2 (g1.trans g2) rl2⟩
  | false => cases eq; exact K ι1 H1 g1 rl1
theorem t_or {ta tc : T} {rest : List Expr} (ha : PT X ea (tT tb Φ S ta)) (hb : PW X (.BoolOp .Or (eb :: rest) pos) (tT tb Φ S tc)) : PW X (.BoolOp .Or (ea :: eb :: rest) pos) (tT tb Φ S (.or ta tc)) := by
  refine ⟨fun wh pins s σ H Q I ⟨ι, e, h, rl, t, h', eq, K⟩ => (pw_or ha hb).run wh pins s σ H Q I ?_⟩
  obtain ⟨dx, h1, e1, eq⟩ := bind_ok eq
  refine ⟨ι, e, h, rl, dx, h1, e1, fun ι1 H1 g1 rl1 => ?_⟩
  cases dx with
  | true => cases eq; exact K ι1 H1 g1 rl1
  | false => exact ⟨ι1, e, h1, rl1, t, h', eq, fun ι2 H2 g2 rl2 => K ι2 H2 (g1.trans g2) rl2⟩
theorem t_not {ta : T} (ha : PT X ea (tT tb Φ S ta)) : PT X (.UnaryOp .Not ea pos) (tT tb Φ S (.not ta)) := by
  refine PT.imp (pt_not ha) fun σ H Q ⟨ι, e, h, rl, t, h', eq, K⟩ => ?_
  obtain ⟨dx, h1, e1, eq⟩ := bind_ok eq
  cases eq
  exact ⟨ι, e, h, rl, dx, _, e1, fun ι1 H1 g1 rl1 => K ι1 H1 g1 rl1⟩
def tCs (tb : Tb) (Φ : Nat → List D → MH → R D) (S : SC) (cs : Ts) : TT := fun σ H Q => ∃ ι e h, Rel S ι e h σ H ∧ OutP S e σ (evC tb Φ cs e h) ι H Q
theorem c_nil : PTs X [] (tCs tb Φ S .nil) := PTs.imp pts_nil fun σ H Q ⟨ι, e, h, rl, t, h', eq, K⟩ => by
  cases eq
  exact K ι H .refl rl
theorem c_one {ta : T} (ha : PT X ea (tT tb Φ S ta)) : PTs X [ea] (tCs tb Φ S (.cons ta .nil)) := PTs.imp (pts_one ha) fun σ H Q ⟨ι, e, h, rl, t, h', eq, K⟩ => by
  obtain ⟨dx, h1, e1, eq⟩ := bind_ok eq
  refine ⟨ι, e, h, rl, dx, h1, e1, fun ι1 H1 g1 rl1 => ?_⟩
  cases dx <;> (cases eq; exact K ι1 H1 g1 rl1)
end
end MP

set_option maxRecDepth 100000
set_option maxHeartbeats 1000000
/-! MP13b: methods of built-in objects. -/
namespace MP
open PySem PySem.Spec PyProof.Rows L2

section
variable {X : Cx} {ca : Nat → Addr} {pins : List (Addr × Obj)} {σ : L2.St} {s : Shared} {ι : List Addr} {M : Addr → Prop} {H : Hp}
theorem vty {T : String} {x : V} {d : D} {v : Value} (I : Inv X pins σ H s) (r : VRep (cx X ca) ι M H x d) (rx : RelV x v) (kt : kindT d = some T) : s.TypeIs v T ∧ ∀ a, v = .ref a → ∃ ob, s.heap.get? a = some ob ∧ ob.dict = none := by
  cases r with
  | str z => obtain ⟨t, rfl⟩ := rx; cases kt; exact ⟨typeIs_str s z t, fun _ e => nomatch e⟩
  | @lst a vs ds h r =>
    cases rx; cases kt
    obtain ⟨its, rv, ⟨o, n, e, hc, hd, hs⟩, _⟩ := I.list (SqL.of h)
    exact ⟨⟨o, e, hc⟩, fun b z => by cases z; exact ⟨o, e, hd⟩⟩
  | @tup a vs ds h r =>
    cases rx; cases kt
    rcases h with ⟨_, o, h, hd⟩ | ⟨o, its, n, h1, hd, h2, _⟩
    · obtain ⟨e, _, _, _, o', e', hc, _⟩ := (show ObjOk X.prog X.w H s.heap a (.frz o (.tup vs)) from I.hok a _ h)
      rw [e] at e'
      cases e'
      exact ⟨⟨o, e, hc⟩, fun b z => by cases z; exact ⟨o, e, hd⟩⟩
    · have e := I.kIn a o h1
      exact ⟨⟨o, e, h2⟩, fun b z => by cases z; exact ⟨o, e, hd⟩⟩
  | dctK h r => cases rx; cases kt; have q := dct_type I (.dctK h r); exact ⟨q.1, fun b z => by cases z; exact q.2⟩
  | dctT h r => cases rx; cases kt; have q := dct_type I (.dctT h r); exact ⟨q.1, fun b z => by cases z; exact q.2⟩
  | dctG h r => cases rx; cases kt; have q := dct_type I (.dctG h r); exact ⟨q.1, fun b z => by cases z; exact q.2⟩
  | _ => cases kt
end
section
variable {X : Cx} {ca : Nat → Addr} {o e : Expr} {es : List Expr} {to : TE} {t : TA} {name : Str} {apos cpos : Pos} {T id : String} {r : V → List V → Hp → VK → Prop}
def tBX (X : Cx) (ca : Nat → Addr) (T : String) (r : V → List V → Hp → VK → Prop) (to : TE) (t : TA) : TE := fun σ H Q => to σ H fun x H1 => (∃ ι M d, VRep (cx X ca) ι M H1 x d ∧ kindT d = some T) ∧ t σ H1 fun xs H2 => r x xs H2 Q
theorem pe_bmX (pa : PlainAttrs T) (slot : _root_.PySem.Slot T name id) (hty : typeOf (.builtin id) = pure (.type "method_descriptor")) (hm : MtR X id r) (ho : PE X o to) (ha : PA X (e :: es) t) (hb : baseP o = true) (hp : (e :: es).all plainA = true) (hl : (e :: es).length < 30) (hn : (apos.endLine == cpos.line) = true) :
    PE X (.Call (.Attribute o name apos) (e :: es) [] cpos) (tBX X ca T r to t) := by
  have h' : (plainA e && es.all plainA) = true := hp
  rw [Bool.and_eq_true] at h'
  have st := plain_star (env := X.env) (es := es) h'.1
  have pl := plain_any (env := X.env) (pos := cpos) h'.2
  have hfew : ((backTo cpos (starEach (e :: es) X.env)).all (fun x => !x.1) && (backToKw cpos (keywordEach [] X.env)).all (fun x => x.1.isSome)
      && decide ((e :: es).length + ([] : List Keyword).length + (if ([] : List Keyword).isEmpty then 0 else 1) < 30)) = true := by
    have e1 : (backTo cpos (starEach (e :: es) X.env)).all (fun x => !x.1) = true := by
      rw [plain_all hp]
      unfold backTo
      simp
    have e2 : (e :: es).length + ([] : List Keyword).length + (if ([] : List Keyword).isEmpty then 0 else 1) < 30 := by simpa using hl
    rw [e1, decide_eq_true e2]
    rfl
  refine ⟨fun pins s σ H Q I h => wpAny_Call_method_late (base_plain hb) hfew hn rfl (thn (ho.run pins s σ H _ I h) fun v s1 ⟨x, H1, I1, r1, ⟨ι, M, d, rv, kt⟩, q1⟩ => ?_)⟩
  obtain ⟨h1, h2⟩ := vty I1 rv r1 kt
  refine ⟨T, id, pa, slot, hty, h1, h2, ?_⟩
  have hA := ha.run cpos pins s1 σ H1 _ I1 q1
  rw [st] at hA ⊢
  refine Calls.callWith_builtin (by show (false || (backTo cpos (starEach es X.env)).any (·.1)) = false; rw [pl]; rfl) (Calls.evalArgs_plain (thn hA fun us s2 ⟨vs, H2, I2, r2, q2⟩ => hm pins s2 σ H2 x vs v us Q I2 r1 r2 q2))
def rBm (C : RC) (f : D → List D → Option D) : V → List V → Hp → VK → Prop := fun x xs H Q => ∃ ι M dx ds d, Known M H ∧ VRep C ι M H x dx ∧ Reps C ι M H xs ds ∧ f dx ds = some d ∧ ∀ H' v, Same H H' → Rep C ι M H' v d → Q v H'
theorem bm_get (hu : X.A.units + 65 < cLine) : MtR X "dict.get" (rBm (cx X ca) (bmD .get)) := by
  intro pins s σ H x xs v us Q I rx rs ⟨ι, M, dx, ds, d, k, rv, rr, e, q⟩
  cases rr with
  | nil => cases dx <;> cases e
  | cons r1 rr =>
    cases rr with
    | nil => cases dx <;> cases e
    | cons r2 rr =>
      cases rr with
      | cons r3 rr => cases dx <;> cases e
      | nil =>
        rename_i vk dk vd dd
        cases dx <;> first | (cases e; done) | skip
        rename_i l
        have e' : (if kfit l dk then some ((dget l dk).getD dd) else none) = some d := e
        split at e'
        · rename_i f
          cases e'
          obtain ⟨uk, t1, rfl, rk, rt⟩ : ∃ uk t, us = uk :: t ∧ RelV vk uk ∧ Vals [vd] t := by cases rs with | cons a b => exact ⟨_, _, rfl, a, b⟩
          obtain ⟨ud, rfl, rd⟩ := vals1 rt
          obtain ⟨a, rfl⟩ : ∃ a, x = .ref a := by cases rv <;> exact ⟨_, rfl⟩
          cases rx
          rcases dct_key I rv r1 rk f with ⟨key, kvs, rfl, rfl, ⟨hd, z, vs, rel, ddd⟩, rks⟩ | ⟨key, b, ll, rfl, t, rfl, rfl, hk, ⟨hd, z, ws, rel, ddd⟩, rts⟩
          · refine call_meetsIn PySem.F.slot_dict_get ddd.typeIs PySem.F.entry_dict_get (PySem.F.args_dict_get_3 _ _ _) (meets_dict_get_default (mixKind X.prog X.w) a (kV_is rk) hd ud) ⟨_, ddd.mapOf, ?_⟩
            cases hg : dget l (kD key) with
            | none =>
              rw [hg] at q
              have h0 := (rks.get key).2 hg
              have h1 : valueAt vs key = none := RelO.none_of (by rw [← h0]; exact rel.val key)
              rw [h1]
              exact ⟨vd, H, I.tok _, rd, q _ _ Same.rfl' r2⟩
            | some dv =>
              rw [hg] at q
              obtain ⟨v', hv, rv'⟩ := (rks.get key).1 dv hg
              obtain ⟨w', hw, rw'⟩ := RelO.some_of (v := v') (o := valueAt vs key) (by rw [← hv]; exact rel.val key)
              rw [hw]
              exact ⟨v', H, I.tok _, rw', q _ _ Same.rfl' rv'⟩
          · refine call_meetsIn PySem.F.slot_dict_get ddd.typeIs PySem.F.entry_dict_get (PySem.F.args_dict_get_3 _ _ _) (meetsH_dict_get_default (nestedKind X.prog X.w) a b hd ud) ⟨room_nest (A := X.A) (by omega), key, ws, hk, ddd, ?_⟩
            cases hg : dget l (nkD key) with
            | none =>
              rw [hg] at q
              have h0 := (rts.get key).2 hg
              have h1 : (atKey ws key).map (·.2) = none := RelO.none_of (by rw [← h0]; exact SameT.val rel)
              rw [h1]
              exact ⟨vd, H, I.tok _, rd, q _ _ Same.rfl' r2⟩
            | some dv =>
              rw [hg] at q
              obtain ⟨v', hv, rv'⟩ := (rts.get key).1 dv hg
              obtain ⟨w', hw, rw'⟩ := RelO.some_of (v := v') (o := (atKey ws key).map (·.2)) (by rw [← hv]; exact SameT.val rel)
              rw [hw]
              exact ⟨v', H, I.tok _, rw', q _ _ Same.rfl' rv'⟩
        · cases e'
theorem bm_index (hu : X.A.units + 65 < cLine) : MtR X "list.index" (rBm (cx X ca) (bmD .lindex)) := by
  intro pins s σ H x xs v us Q I rx rs ⟨ι, M, dx, ds, d, k, rv, rr, e, q⟩
  cases rr with
  | nil => cases dx <;> cases e
  | cons r1 rr =>
    cases rr with
    | cons r2 rr => cases dx <;> cases e
    | nil =>
      rename_i vk dk
      cases dx <;> first | (cases e; done) | skip
      rename_i l
      obtain ⟨j, ej, rfl⟩ := Option.map_eq_some_iff.mp (show (indexD l dk).map (fun j : Nat => D.int j) = some d from e)
      have ej' : (if fit dk 60 && fitL l 60 then l.findIdx? (fun z => eqD z dk) else none) = some j := ej
      split at ej'
      · rename_i hc
        obtain ⟨f1, f2⟩ := Bool.and_eq_true_iff.mp hc
        obtain ⟨a, rfl⟩ : ∃ a, x = .ref a := by cases rv <;> exact ⟨_, rfl⟩
        obtain ⟨hj, hz, hno⟩ := List.findIdx?_eq_some_iff_getElem.mp ej'
        have dpl : Dp X.K H (.ref a) (.list (pdL l)) := rv.dp (k := 61) (by exact f2)
        refine mt_indexD hu pins s σ H _ _ v us Q I rx rs ⟨a, vk, dk.pd, pdL l, j, l[j].pd, rfl, rfl, dpl, r1.dp f1, fit_shaped (d := .lst l) (k := 61) f2 (by decide), fit_shaped f1 (by decide), ?_, ?_, fun m z' hm hz' => ?_, q _ _ Same.rfl' (.int _)⟩
        · rw [pdL_map, List.getElem?_map, List.getElem?_eq_getElem hj]; rfl
        · rw [eqv_eqD l[j] dk 60 60 (fitL_get f2 hj) f1]; exact hz
        · have hml : m < l.length := by omega
          rw [pdL_map, List.getElem?_map, List.getElem?_eq_getElem hml] at hz'
          cases hz'
          rw [eqv_eqD l[m] dk 60 60 (fitL_get f2 hml) f1]
          simpa using hno m hm
      · cases ej'
theorem strs_of {C : RC} {ι : List Addr} {M : Addr → Prop} {H : Hp} : ∀ {ds : List D} {vs : List V}, Reps C ι M H vs ds → ds.all isStrD = true → ∃ ys : List Str, vs = ys.map V.str ∧ ds = ys.map D.str
  | _, _, .nil, _ => ⟨[], rfl, rfl⟩
  | _, _, .cons h r, f => by
    rw [List.all_cons, Bool.and_eq_true] at f
    obtain ⟨ys, h1, h2⟩ := strs_of r f.2
    cases h <;> first | (cases f.1; done) | skip
    rename_i z
    exact ⟨z :: ys, by rw [h1]; rfl, by rw [h2]; rfl⟩
theorem bm_tindex : MtR X "tuple.index" (rBm (cx X ca) (bmD .tindex)) := by
  intro pins s σ H x xs v us Q I rx rs ⟨ι, M, dx, ds, d, k, rv, rr, e, q⟩
  cases rr with
  | nil => cases dx <;> cases e
  | cons r1 rr =>
    cases rr with
    | cons r2 rr => rename_i dk _ _ _ _; cases dx <;> cases dk <;> cases e
    | nil =>
      rename_i vk dk
      cases dx <;> first | (cases dk <;> cases e; done) | skip
      rename_i l
      cases r1 <;> first | (cases e; done) | skip
      rename_i z
      have e' : (if l.all isStrD then (l.findIdx? fun w => eqD w (.str z)).map fun (j : Nat) => D.int j else none) = some d := e
      split at e'
      · rename_i hs
        obtain ⟨j, ej, rfl⟩ := Option.map_eq_some_iff.mp e'
        cases rv with
        | @tup a vs ds h r =>
          obtain ⟨ys, rfl, rfl⟩ := strs_of r hs
          obtain ⟨hj, hz, hno⟩ := List.findIdx?_eq_some_iff_getElem.mp ej
          have hj' : j < ys.length := by simpa using hj
          have eq1 : ys[j] = z := by
            have : eqD (.str ys[j]) (.str z) = true := by simpa using hz
            exact of_decide_eq_true this
          refine mt_tup_index pins s σ H _ _ v us Q I rx rs ⟨a, ys, z, j, rfl, rfl, h.sq, by rw [List.getElem?_eq_getElem hj', eq1], fun m hm w => ?_, q _ _ Same.rfl' (.int _)⟩
          have hm' : m < ys.length := by omega
          rw [List.getElem?_eq_getElem hm'] at w
          have n := hno m hm
          have : eqD (.str ys[m]) (.str z) = true := decide_eq_true (Option.some.inj w)
          simp [eqD, Option.some.inj w] at n
      · cases e'
theorem bm_count (hu : X.A.units + 65 < cLine) : MtR X "list.count" (rBm (cx X ca) (bmD .lcount)) := by
  intro pins s σ H x xs v us Q I rx rs ⟨ι, M, dx, ds, d, k, rv, rr, e, q⟩
  cases rr with
  | nil => cases dx <;> cases e
  | cons r1 rr =>
    cases rr with
    | cons r2 rr => cases dx <;> cases e
    | nil =>
      rename_i vk dk
      cases dx <;> first | (cases e; done) | skip
      rename_i l
      have e' : (if fit dk 60 && fitL l 60 then some (D.int (l.countP fun z => eqD z dk)) else none) = some d := e
      split at e'
      · rename_i hc
        cases e'
        obtain ⟨f1, f2⟩ := Bool.and_eq_true_iff.mp hc
        obtain ⟨uk, rfl, rk⟩ := vals1 rs
        cases rv with
        | @lst a vs ds h r =>
          cases rx
          obtain ⟨its, rv, ⟨⟨cls, dd, data, sls⟩, n, ho, hc1, hdn, hdt⟩, hlen⟩ := I.list (SqL.of h)
          simp only at hc1 hdt
          subst hc1 hdt
          have sl : SeqAt.shaped (.list (pdL l)) = true := fit_shaped (d := .lst l) (k := 61) f2 (by decide)
          have sd : SeqAt.shaped dk.pd = true := fit_shaped f1 (by decide)
          have hxs : PyData.canLayAll0 (pdL l) = true := SeqAt.canLay_of_shaped sl
          obtain ⟨bs, q1⟩ := Dp.reads I dk.pd vk uk (r1.dp f1) rk
          obtain ⟨as, q2⟩ := Dp.readsAll I (pdL l) _ its (r.dp f2) rv
          have hmap := SeqAt.readsAll_map _ its as hxs q2
          have hroom : X.A.units + 1 + min (PyData.depthAll (pdL l)) dk.pd.depth < cLine := room_in_shaped sd hu
          refine call_meets PySem.F.slot_list_count ⟨_, ho, rfl⟩ PySem.F.entry_list_count (PySem.F.args_list_count_2 _ _) (SeqAt.list_countAt a its.toArray n dd sls uk (fun u => PyData.eqv (SeqAt.readOf s.heap u) dk.pd))
            ⟨ho, SeqAt.items_eqAt (vs := its.toArray) (show ReadsAll s.heap its.toArray.toList (pdL l) as from q2) q1 hxs (SeqAt.canLay_of_shaped sd) hroom, ?_⟩
          have ec : its.toArray.toList.countP (fun u => PyData.eqv (SeqAt.readOf s.heap u) dk.pd) = l.countP fun z => eqD z dk := by
            have e1 : its.countP (fun u => PyData.eqv (SeqAt.readOf s.heap u) dk.pd) = (its.map (SeqAt.readOf s.heap)).countP fun u => PyData.eqv u dk.pd := by rw [List.countP_map]; rfl
            have e2 : ∀ {l : List D}, fitL l 60 = true → (pdL l).countP (fun u => PyData.eqv u dk.pd) = l.countP fun z => eqD z dk := by
              intro l
              induction l with
              | nil => intro _; rfl
              | cons a r ih =>
                intro f
                obtain ⟨g1, g2⟩ := Bool.and_eq_true_iff.mp (show (fit a 60 && fitL r 60) = true from f)
                show (a.pd :: pdL r).countP _ = _
                rw [List.countP_cons, List.countP_cons, ih g2, eqv_eqD a dk 60 60 g1 f1]
            show its.countP _ = _
            rw [e1, hmap, e2 f2]
          rw [ec]
          exact ⟨.int _, H, I.tok _, ⟨_, rfl⟩, q _ _ Same.rfl' (.int _)⟩
      · cases e'
end

section
variable {tb : Tb} {Φ : Nat → List D → MH → R D} {x : Tx} {N : List Str} {j : Nat} {S : SC} {X : Cx} {e eo : Expr} {es : List Expr} {o : M} {l : Ms} {apos cpos : Pos}
theorem bm_core {b : Bmt} {σ : L2.St} {H : Hp} {Q : VK} (G : Gd tb Φ x N j S X) (q : tE tb Φ S (.bm b o l) σ H Q) : tBX X x.ca (bmK b) (rBm (cx X x.ca) (bmD b)) (tO tb Φ S o) (tEs tb Φ S l) σ H Q := by
  obtain ⟨ι, e, h, rl, d, h', eq, K⟩ := q
  obtain ⟨xo, h1, e1, eq⟩ := bind_ok eq
  refine ⟨ι, e, h, rl, xo, h1, e1, fun ι1 H1 v1 g1 rl1 r1 => ?_⟩
  cases hv : vo e h1 xo with
  | none => rw [hv] at eq; cases eq
  | some d0 =>
    rw [hv] at eq
    obtain ⟨hk, eq⟩ := ite_ok eq
    obtain ⟨ds, h2, e2, eq⟩ := bind_ok eq
    refine ⟨⟨ι1, _, d0, by rw [← G.C]; exact rl1.vo r1 hv, of_decide_eq_true hk⟩, ι1, e, h1, rl1, ds, h2, e2, fun ι2 H2 vs g2 rl2 r2 => ?_⟩
    cases hv2 : vo e h2 xo with
    | none => rw [hv2] at eq; cases eq
    | some dx =>
      rw [hv2] at eq
      obtain ⟨hd, rfl⟩ := of_ok eq
      rw [← G.C]
      exact ⟨ι2, _, dx, ds, d, rl2.known, rl2.vo (r1.go g2) hv2, r2, hd, fun H' v s r => K ι2 H' v (g1.trans (g2.trans (.same s))) (rl2.grow s) r⟩
theorem e_bm {b : Bmt} (G : Gd tb Φ x N j S X) (ho : PE X eo (tO tb Φ S o)) (hl : PA X (e :: es) (tEs tb Φ S l)) (hb : baseP eo = true) (hp : (e :: es).all plainA = true) (hz : (e :: es).length < 30) (hn : (apos.endLine == cpos.line) = true) (hd : bmDone b = true) :
    PE X (.Call (.Attribute eo (bmN b) apos) (e :: es) [] cpos) (tE tb Φ S (.bm b o l)) := by
  refine PE.imp ?_ fun σ H Q q => bm_core G q
  cases b <;> first | (cases hd; done) | skip
  · exact pe_bmX F.plainAttrs_list F.slot_list_index F.type_list_index (bm_index G.hu) ho hl hb hp hz hn
  · exact pe_bmX F.plainAttrs_tuple F.slot_tuple_index F.type_tuple_index bm_tindex ho hl hb hp hz hn
  · exact pe_bmX F.plainAttrs_list F.slot_list_count F.type_list_count (bm_count G.hu) ho hl hb hp hz hn
  · exact pe_bmX F.plainAttrs_dict F.slot_dict_get F.type_dict_get (bm_get G.hu) ho hl hb hp hz hn
end
end MP

set_option maxRecDepth 100000
set_option maxHeartbeats 1000000
/-! MP14: instances are made. -/
namespace MP
open PySem PySem.Spec PyProof.Rows L2

theorem and3 {a b c : Bool} (h : (a && b && c) = true) : a = true ∧ b = true ∧ c = true := by
  rw [Bool.and_eq_true, Bool.and_eq_true] at h
  exact ⟨h.1.1, h.1.2, h.2⟩
theorem and2 {a b : Bool} (h : (a && b) = true) : a = true ∧ b = true := by
  rw [Bool.and_eq_true] at h
  exact h
section
variable {C : RC} {ι ι1 : List Addr} {M M1 : Addr → Prop} {H : Hp} {n : Nat}
mutual
theorem Rep.low (hn : ∀ k, k < n → ι[k]? = ι1[k]?) (hm : ∀ a, M1 a → M a) : ∀ {d : D} {v : V}, Rep C ι M H v d → MP.low n d = true → Rep C ι1 M1 H v d
  | _, _, .non, _ => .non
  | _, _, .bl b, _ => .bl b
  | _, _, .int i, _ => .int i
  | _, _, .str x, _ => .str x
  | .tup ds, _, .tup h r, q => .tup (h.go (Go.less hm (ι := ι))) (Reps.low hn hm r (show lowL n ds = true from q))
  | .lst ds, _, .lst m h r, q => .lst (fun z => m (hm _ z)) h (Reps.low hn hm r (show lowL n ds = true from q))
  | .scr ds, _, .scr h r, q => .scr (h.go (Go.less hm (ι := ι))) (Reps.low hn hm r (show lowL n ds = true from q))
  | .dct ds, _, .dctK m h r, q => .dctK (fun z => m (hm _ z)) h (RepKs.low hn hm r (show lowK n ds = true from q))
  | .dct ds, _, .dctT m h r, q => .dctT (fun z => m (hm _ z)) h (RepTs.low hn hm r (show lowK n ds = true from q))
  | .dct ds, _, .dctG h r, q => .dctG h (RepGs.low hn hm r (show lowK n ds = true from q))
  | .ins c fs, _, .ins m h r, q => .ins (fun z => m (hm _ z)) h (RepFs.low hn hm r (show lowF n fs = true from q))
  | .ref k, _, .ref h, q => .ref (by rw [← hn k (of_decide_eq_true q)]; exact h)
theorem Reps.low (hn : ∀ k, k < n → ι[k]? = ι1[k]?) (hm : ∀ a, M1 a → M a) : ∀ {ds : List D} {vs : List V}, Reps C ι M H vs ds → lowL n ds = true → Reps C ι1 M1 H vs ds
  | _, _, .nil, _ => .nil
  | d :: ds, _, .cons h r, q => .cons (Rep.low hn hm h (and2 q).1) (Reps.low hn hm r (and2 q).2)
theorem RepKs.low (hn : ∀ k, k < n → ι[k]? = ι1[k]?) (hm : ∀ a, M1 a → M a) : ∀ {ds : List (D × D)} {vs : List (Key × V)}, RepKs C ι M H vs ds → lowK n ds = true → RepKs C ι1 M1 H vs ds
  | _, _, .nil, _ => .nil
  | _, _, .cons h r, q => .cons (Rep.low hn hm h (and3 q).2.1) (RepKs.low hn hm r (and3 q).2.2)
theorem RepTs.low (hn : ∀ k, k < n → ι[k]? = ι1[k]?) (hm : ∀ a, M1 a → M a) : ∀ {ds : List (D × D)} {vs : List (NestedKey × Addr × V)}, RepTs C ι M H vs ds → lowK n ds = true → RepTs C ι1 M1 H vs ds
  | _, _, .nil, _ => .nil
  | _, _, .cons t h0 h r, q => .cons t (Rep.low hn hm h0 (and3 q).1) (Rep.low hn hm h (and3 q).2.1) (RepTs.low hn hm r (and3 q).2.2)
theorem RepGs.low (hn : ∀ k, k < n → ι[k]? = ι1[k]?) (hm : ∀ a, M1 a → M a) : ∀ {ds : List (D × D)} {vs : List (Str × V)}, RepGs C ι M H vs ds → lowK n ds = true → RepGs C ι1 M1 H vs ds
  | _, _, .nil, _ => .nil
  | _, _, .cons h r, q => .cons (Rep.low hn hm h (and3 q).2.1) (RepGs.low hn hm r (and3 q).2.2)
theorem RepFs.low (hn : ∀ k, k < n → ι[k]? = ι1[k]?) (hm : ∀ a, M1 a → M a) : ∀ {ds : List (Str × D)} {vs : List (Str × V)}, RepFs C ι M H vs ds → lowF n ds = true → RepFs C ι1 M1 H vs ds
  | _, _, .nil, _ => .nil
  | _, _, .cons h r, q => .cons (Rep.low hn hm h (and2 q).1) (RepFs.low hn hm r (and2 q).2)
end
mutual
theorem Rep.wide (hn : ∀ (k : Nat) (a : Addr), ι[k]? = some a → ι1[k]? = some a) (hm : ∀ a, M1 a → M a) : ∀ {d : D} {v : V}, Rep C ι M H v d → Rep C ι1 M1 H v d
  | _, _, .non => .non
  | _, _, .bl b => .bl b
  | _, _, .int i => .int i
  | _, _, .str x => .str x
  | _, _, .tup h r => .tup (h.go (Go.less hm (ι := ι))) (Reps.wide hn hm r)
  | _, _, .lst m h r => .lst (fun z => m (hm _ z)) h (Reps.wide hn hm r)
  | _, _, .scr h r => .scr (h.go (Go.less hm (ι := ι))) (Reps.wide hn hm r)
  | _, _, .dctK m h r => .dctK (fun z => m (hm _ z)) h (RepKs.wide hn hm r)
  | _, _, .dctT m h r => .dctT (fun z => m (hm _ z)) h (RepTs.wide hn hm r)
  | _, _, .dctG h r => .dctG h (RepGs.wide hn hm r)
  | _, _, .ins m h r => .ins (fun z => m (hm _ z)) h (RepFs.wide hn hm r)
  | _, _, .ref h => .ref (hn _ _ h)
theorem Reps.wide (hn : ∀ (k : Nat) (a : Addr), ι[k]? = some a → ι1[k]? = some a) (hm : ∀ a, M1 a → M a) : ∀ {ds : List D} {vs : List V}, Reps C ι M H vs ds → Reps C ι1 M1 H vs ds
  | _, _, .nil => .nil
  | _, _, .cons h r => .cons (Rep.wide hn hm h) (Reps.wide hn hm r)
theorem RepKs.wide (hn : ∀ (k : Nat) (a : Addr), ι[k]? = some a → ι1[k]? = some a) (hm : ∀ a, M1 a → M a) : ∀ {ds : List (D × D)} {vs : List (Key × V)}, RepKs C ι M H vs ds → RepKs C ι1 M1 H vs ds
  | _, _, .nil => .nil
  | _, _, .cons h r => .cons (Rep.wide hn hm h) (RepKs.wide hn hm r)
theorem RepTs.wide (hn : ∀ (k : Nat) (a : Addr), ι[k]? = some a → ι1[k]? = some a) (hm : ∀ a, M1 a → M a) : ∀ {ds : List (D × D)} {vs : List (NestedKey × Addr × V)}, RepTs C ι M H vs ds → RepTs C ι1 M1 H vs ds
  | _, _, .nil => .nil
  | _, _, .cons t h0 h r => .cons t (Rep.wide hn hm h0) (Rep.wide hn hm h) (RepTs.wide hn hm r)
theorem RepGs.wide (hn : ∀ (k : Nat) (a : Addr), ι[k]? = some a → ι1[k]? = some a) (hm : ∀ a, M1 a → M a) : ∀ {ds : List (D × D)} {vs : List (Str × V)}, RepGs C ι M H vs ds → RepGs C ι1 M1 H vs ds
  | _, _, .nil => .nil
  | _, _, .cons h r => .cons (Rep.wide hn hm h) (RepGs.wide hn hm r)
theorem RepFs.wide (hn : ∀ (k : Nat) (a : Addr), ι[k]? = some a → ι1[k]? = some a) (hm : ∀ a, M1 a → M a) : ∀ {ds : List (Str × D)} {vs : List (Str × V)}, RepFs C ι M H vs ds → RepFs C ι1 M1 H vs ds
  | _, _, .nil => .nil
  | _, _, .cons h r => .cons (Rep.wide hn hm h) (RepFs.wide hn hm r)
end
theorem ContAt.wide {a : Addr} {d : D} (hn : ∀ (k : Nat) (b : Addr), ι[k]? = Option.some b → ι1[k]? = Option.some b) (hm : ∀ b, M1 b → M b) (r : ContAt C ι M H a d) : ContAt C ι1 M1 H a d := by
  cases r with
  | lst h r => exact .lst h (r.wide hn hm)
  | dctK h r => exact .dctK h (r.wide hn hm)
  | dctT h r => exact .dctT h (r.wide hn hm)
  | ins h r => exact .ins h (r.wide hn hm)
theorem ContAt.low {a : Addr} {d : D} (hn : ∀ k, k < n → ι[k]? = ι1[k]?) (hm : ∀ a, M1 a → M a) (r : ContAt C ι M H a d) (q : MP.low n d = true) : ContAt C ι1 M1 H a d := by
  cases r with
  | lst h r => exact .lst h (r.low hn hm q)
  | dctK h r => exact .dctK h (r.low hn hm q)
  | dctT h r => exact .dctT h (r.low hn hm q)
  | ins h r => exact .ins h (r.low hn hm q)
/-- an object that does not change from now on, dicts locked -/
inductive LkAt (C : RC) (ι : List Addr) (M : Addr → Prop) (H : Hp) (a : Addr) : D → Prop
  | lst {vs : List V} {ds : List D} : H a = some (.lst vs) → Reps C ι M H vs ds → LkAt C ι M H a (.lst ds)
  | dctK {o : Obj} {kvs : List (Key × V)} {ds : List (D × D)} : H a = some (.frz o (.dK kvs)) → RepKs C ι M H kvs ds → LkAt C ι M H a (.dct ds)
  | dctT {o : Obj} {l : List (NestedKey × Addr × V)} {ds : List (D × D)} : H a = some (.frz o (.ext (dtPhi C.w a l))) → RepTs C ι M H l ds → LkAt C ι M H a (.dct ds)
  | ins {c : Nat} {dx : Addr} {vfs : List (Str × V)} {fs : List (Str × D)} : H a = some (.ins (C.ca c) dx vfs) → RepFs C ι M H vfs fs → LkAt C ι M H a (.ins c fs)
theorem LkAt.go {ι' : List Addr} {M' : Addr → Prop} {H' : Hp} {a : Addr} {d : D} (r : LkAt C ι M H a d) (g : Go ι M H ι' M' H') (e : ∀ o, H a = some o → H' a = some o) : LkAt C ι' M' H' a d := by
  cases r with
  | lst h r => exact .lst (e _ h) (r.go g)
  | dctK h r => exact .dctK (e _ h) (r.go g)
  | dctT h r => exact .dctT (e _ h) (r.go g)
  | ins h r => exact .ins (e _ h) (r.go g)
theorem LkAt.low {a : Addr} {d : D} (hn : ∀ k, k < n → ι[k]? = ι1[k]?) (hm : ∀ a, M1 a → M a) (r : LkAt C ι M H a d) (q : MP.low n d = true) : LkAt C ι1 M1 H a d := by
  cases r with
  | lst h r => exact .lst h (r.low hn hm q)
  | dctK h r => exact .dctK h (r.low hn hm q)
  | dctT h r => exact .dctT h (r.low hn hm q)
  | ins h r => exact .ins h (r.low hn hm q)
theorem LkAt.rep {a : Addr} {d : D} (r : LkAt C ι M H a d) (m : ¬ M a) : Rep C ι M H (.ref a) d := by
  cases r with
  | lst h r => exact .lst m h r
  | dctK h r => exact .dctK m h r
  | dctT h r => exact .dctT m h r
  | ins h r => exact .ins m h r
/-- the objects behind the n-th are locked, from the j-th on -/
theorem lockFrom {R : Hp → Prop} {H0 : Hp} {h : MH} (nd : ι.Nodup) (sub : ∀ a, a ∈ ι → M a) (K : ∀ H4, Go ι M H0 ι M H4 → (∀ b, b ∉ ι → H4 b = H0 b) → (∀ (k : Nat) (d : D), h[k]? = some d → ∃ a, ι[k]? = some a ∧ (n < k → LkAt C ι M H4 a d) ∧ (k ≤ n → ContAt C ι M H4 a d)) → R H4) :
    ∀ (m j : Nat) (H : Hp), h.length - j = m → n < j → Go ι M H0 ι M H → (∀ b, b ∉ ι → H b = H0 b) → (∀ (k : Nat) (d : D), h[k]? = some d → ∃ a, ι[k]? = some a ∧ (n < k → k < j → LkAt C ι M H a d) ∧ (k ≤ n ∨ j ≤ k → ContAt C ι M H a d)) → LockQ R H
  | 0, j, H, hm, hj, g, kp, hp => .done (K H g kp fun k d q => by
      have hk : k < h.length := by
        by_cases z : k < h.length
        · exact z
        · rw [List.getElem?_eq_none (by omega)] at q; cases q
      obtain ⟨a, h1, h2, h3⟩ := hp k d q
      exact ⟨a, h1, fun z => h2 z (by omega), fun z => h3 (.inl z)⟩)
  | m + 1, j, H, hm, hj, g, kp, hp => by
    have hlt : j < h.length := by omega
    obtain ⟨a, ha, _, hc⟩ := hp j h[j] (List.getElem?_eq_getElem hlt)
    have c := hc (.inr (Nat.le_refl _))
    have hin : a ∈ ι := List.mem_of_getElem? ha
    have hne : ∀ {k b}, k ≠ j → ι[k]? = some b → b ≠ a := fun {k b} hk hb z => by
      subst z
      have hl : k < ι.length := by
        by_cases w : k < ι.length
        · exact w
        · rw [List.getElem?_eq_none (by omega)] at hb; cases hb
      exact hk ((List.getElem?_inj hl nd).mp (hb.trans ha.symm))
    have lk : ∀ {u : HO}, H a = some u → Mut (some u) → (∀ o, LkAt C ι M (upd H a (.frz o u)) a h[j]) → LockQ R H := fun {u} q mu l => .lock q mu fun o => by
      have gw : Go ι M H ι M (upd H a (.frz o u)) := Go.write (sub a hin)
      refine lockFrom nd sub K m (j + 1) _ (by omega) (by omega) (g.trans gw) (fun b hb => ?_) fun k d q => ?_
      · have hb' : b ≠ a := fun z => hb (by rw [z]; exact hin)
        rw [upd_ne hb']; exact kp b hb
      · obtain ⟨b, h1, h2, h3⟩ := hp k d q
        by_cases hk : k = j
        · subst hk
          rw [ha] at h1
          cases h1
          rw [List.getElem?_eq_getElem hlt] at q
          cases q
          exact ⟨a, ha, fun _ _ => l o, fun z => by omega⟩
        · have hb := hne hk h1
          exact ⟨b, h1, fun z1 z2 => (h2 z1 (by omega)).go gw fun o q => by rw [upd_ne hb]; exact q, fun z => (h3 (by omega)).go gw fun o q => by rw [upd_ne hb]; exact q⟩
    have dn : LkAt C ι M H a h[j] → LockQ R H := fun l => lockFrom nd sub K m (j + 1) H (by omega) (by omega) g kp fun k d q => by
      obtain ⟨b, h1, h2, h3⟩ := hp k d q
      by_cases hk : k = j
      · subst hk
        rw [ha] at h1
        cases h1
        rw [List.getElem?_eq_getElem hlt] at q
        cases q
        exact ⟨a, ha, fun _ _ => l, fun z => by omega⟩
      · exact ⟨b, h1, fun z1 z2 => h2 z1 (by omega), fun z => h3 (by omega)⟩
    cases hd : h[j] with
    | lst ds => rw [hd] at c dn lk; cases c with
      | lst q r => exact dn (.lst q r)
    | ins i fs => rw [hd] at c dn lk; cases c with
      | ins q r => exact dn (.ins q r)
    | dct ds =>
      rw [hd] at c dn lk
      have gw : ∀ {o : HO}, Go ι M H ι M (upd H a o) := Go.write (sub a hin)
      cases c with
      | dctK q r => exact lk q True.intro fun o => .dctK upd_same (r.go gw)
      | dctT q r => exact lk q True.intro fun o => .dctT upd_same (r.go gw)
    | _ => rw [hd] at c; cases c
theorem ContAt.rep {a : Addr} {d : D} (r : ContAt C ι M H a d) (m : ¬ M a) (ni : ∀ ds, d ≠ .dct ds) : Rep C ι M H (.ref a) d := by
  cases r with
  | lst h r => exact .lst m h r
  | dctK h r => exact absurd rfl (ni _)
  | dctT h r => exact absurd rfl (ni _)
  | ins h r => exact .ins m h r
theorem thaw_rep {h : MH} {v : V} {d e : D} (hn : ∀ k, k < n → ι[k]? = ι1[k]?) (hm : ∀ a, M1 a → M a) (hp : ∀ (k : Nat) (d : D), h[k]? = some d → ∃ a, ι[k]? = some a ∧ (n < k → LkAt C ι M H a d))
    (hx : ∀ (k : Nat) (a : Addr), n < k → ι[k]? = some a → ¬ M1 a) (hi : ∃ c fs, h[n]? = some (.ins c fs)) (r : Rep C ι M H v d) (q : thaw n h d = some e) : Rep C ι1 M1 H v e := by
  have gen : (if MP.low n d then some d else none) = some e → Rep C ι1 M1 H v e := fun q => by
    split at q
    · rename_i hl
      cases q
      exact r.low hn hm hl
    · cases q
  cases d with
  | ref k =>
    have q' : (if k < n then some (D.ref k) else (match h[k]? with
      | some (.ins _ _) => none
      | some d => if MP.low n d then some d else none
      | none => none)) = some e := q
    cases r with
    | @ref a _ ha =>
      split at q'
      · rename_i hk
        cases q'
        exact .ref (by rw [← hn k hk]; exact ha)
      · rename_i hk
        cases hh : h[k]? with
        | none => rw [hh] at q'; cases q'
        | some d =>
          rw [hh] at q'
          obtain ⟨a', h1, h2⟩ := hp k d hh
          rw [ha] at h1
          cases h1
          have hne : k ≠ n := fun z => by
            subst z
            obtain ⟨c, fs, hf⟩ := hi
            rw [hf] at hh
            cases hh
            cases q'
          have hm' := hx k a (by omega) ha
          have fin : (∀ c fs, d ≠ .ins c fs) → (if MP.low n d then some d else none) = some e → Rep C ι1 M1 H (.ref a) e := fun ni q => by
            split at q
            · rename_i hl
              cases q
              exact ((h2 (by omega)).low hn hm hl).rep hm'
            · cases q
          cases d <;> first | exact fin (fun c fs z => nomatch z) q' | (cases q'; done)
  | _ => exact gen q
theorem thawF_rep {h : MH} (hn : ∀ k, k < n → ι[k]? = ι1[k]?) (hm : ∀ a, M1 a → M a) (hp : ∀ (k : Nat) (d : D), h[k]? = some d → ∃ a, ι[k]? = some a ∧ (n < k → LkAt C ι M H a d))
    (hx : ∀ (k : Nat) (a : Addr), n < k → ι[k]? = some a → ¬ M1 a) (hi : ∃ c fs, h[n]? = some (.ins c fs)) : ∀ {vfs : List (Str × V)} {fs gs : List (Str × D)}, RepFs C ι M H vfs fs → thawF n h fs = some gs → RepFs C ι1 M1 H vfs gs
  | _, _, _, .nil, q => by cases q; exact .nil
  | _, (f, d) :: fs, _, .cons r rs, q => by
    have q' : (match thaw n h d, thawF n h fs with
      | some e, some s => some ((f, e) :: s)
      | _, _ => none) = some _ := q
    cases h1 : thaw n h d with
    | none => rw [h1] at q'; cases q'
    | some e =>
      cases h2 : thawF n h fs with
      | none => rw [h1, h2] at q'; cases q'
      | some s =>
        rw [h1, h2] at q'
        cases q'
        exact .cons (thaw_rep hn hm hp hx hi r h1) (thawF_rep hn hm hp hx hi rs h2)
end

section
variable {tb : Tb} {Φ : Nat → List D → MH → R D} {x : Tx} {N : List Str} {j : Nat} {S : SC} {X : Cx} {sc : Scope} {e ea eb ec : Expr} {es : List Expr} {a b c m : M} {pos p p2 apos : Pos} {y : Str}

theorem mk_core {ι : List Addr} {e : Ev} {h : MH} {σ : L2.St} {H : Hp} {vs : List V} {ds : List D} {d : D} {h2 h' : MH} {c f np : Nat} {fr : Bool} {Q : VK} {E : XK} (rl : Rel S ι e h σ H) (r : Reps S.C ι (Mu S.M0 ι e σ) H vs ds) (hn : vs.length + 1 = np)
    (eq : Φ f (.ref h.length :: ds) (h ++ [.ins c []]) = .ok .non h2) (eq2 : frozen h.length h2 = .ok d h')
    (K : ∀ H' v, Go ι (Mu S.M0 ι e σ) H ι (Mu S.M0 ι e σ) H' → Rel S ι e h' σ H' → Rep S.C ι (Mu S.M0 ι e σ) H' v d → Q v H') {xa dx : Addr} (hx : H xa = none) (hdx : H dx = none) (hne : dx ≠ xa) :
    spF S.C np fr (Φ f) (.ref xa :: vs) (upd (upd H dx (.own xa)) xa (.ins (S.C.ca c) dx [])) (fun v H2 => v = .non ∧ LockQ (Q (.ref xa)) H2) E := by
  have s1 : Same H (upd H dx (.own xa)) := same_laid hdx
  have hx1 : upd H dx (.own xa) xa = none := by rw [upd_ne (Ne.symm hne)]; exact hx
  have s2 : Same (upd H dx (.own xa)) (upd (upd H dx (.own xa)) xa (.ins (S.C.ca c) dx [])) := same_laid hx1
  have s3 : Same H (upd (upd H dx (.own xa)) xa (.ins (S.C.ca c) dx [])) := fun b o q => s2 b o (s1 b o q)
  generalize hH2 : upd (upd H dx (.own xa)) xa (.ins (S.C.ca c) dx []) = H2 at *
  have hxs : H2 xa = some (.ins (S.C.ca c) dx []) := by rw [← hH2]; exact upd_same
  have nxi : xa ∉ ι := fun z => by obtain ⟨o, q⟩ := rl.there (.inr (.inl z)); rw [hx] at q; cases q
  have nxm : ¬ Mu S.M0 ι e σ xa := rl.not hx
  have g1 : Go ι (Mu S.M0 ι e σ) H (ι ++ [xa]) (fun a => Mu S.M0 ι e σ a ∨ a = xa) H2 := by
    refine ⟨fun n a q => ?_, fun a o q _ => s3 a o q, fun a o q z => ?_, fun a z => ?_, fun a o q => ⟨o, s3 a o q⟩⟩
    · have hlt : n < ι.length := by
        by_cases z : n < ι.length
        · exact z
        · rw [List.getElem?_eq_none (by omega)] at q; cases q
      rw [List.getElem?_append_left hlt]; exact q
    · rcases z with z | z
      · exact z
      · subst z; rw [hx] at q; cases q
    · rcases List.mem_append.mp z with z | z
      · exact .inl z
      · have : a = xa := by simpa using z
        subst this
        exact .inr hx
  have scn : Scn S.C (ι ++ [xa]) (fun a => Mu S.M0 ι e σ a ∨ a = xa) (h ++ [.ins c []]) H2 := by
    refine ⟨fun a m => ?_, fun a z => ?_, ?_, ?_, fun n d q => ?_⟩
    · rcases m with m | m
      · obtain ⟨o, q⟩ := rl.there m; exact ⟨o, s3 a o q⟩
      · subst m; exact ⟨_, hxs⟩
    · rcases List.mem_append.mp z with z | z
      · exact .inl (.inr (.inl z))
      · exact .inr (by simpa using z)
    · rw [List.length_append, List.length_append, rl.hl]; rfl
    · rw [List.nodup_append]
      refine ⟨rl.hd, by simp, fun a ha b hb => ?_⟩
      have : b = xa := by simpa using hb
      subst this
      exact fun z => nxi (z ▸ ha)
    · by_cases hlt : n < h.length
      · rw [List.getElem?_append_left hlt] at q
        obtain ⟨a, q1, q2⟩ := rl.hp n d q
        exact ⟨a, g1.pre n a q1, q2.go g1 fun o q => s3 a o q⟩
      · by_cases hn : n = h.length
        · subst hn
          rw [List.getElem?_append_right (Nat.le_refl _), Nat.sub_self] at q
          cases q
          refine ⟨xa, ?_, .ins hxs .nil⟩
          rw [← rl.hl, List.getElem?_append_right (Nat.le_refl _), Nat.sub_self]
          rfl
        · rw [List.getElem?_eq_none (by rw [List.length_append]; show h.length + 1 ≤ n; omega)] at q
          cases q
  have hxn : (ι ++ [xa])[h.length]? = some xa := by
    rw [← rl.hl, List.getElem?_append_right (Nat.le_refl _), Nat.sub_self]; rfl
  refine ⟨hn, ι ++ [xa], _, .ref h.length :: ds, _, .non, h2, scn, .cons (.ref hxn) (r.go g1), eq, fun ι3 H3 v A rv nw => ?_⟩
  have hv : v = .non := by
    cases fr with
    | false => have q := rv rfl; cases q; rfl
    | true =>
      obtain ⟨_, _, _, _, _, q⟩ := nw rfl
      cases q
  refine ⟨hv, ?_⟩
  refine lockFrom (n := h.length) (h := h2) A.scn.hd (M := fun a => (Mu S.M0 ι e σ a ∨ a = xa) ∨ a ∈ ι3) (fun a z => Or.inr z) (fun H4 gl kp lp => ?_) _ (h.length + 1) H3 rfl (Nat.lt_succ_self _) .refl (fun _ _ => rfl) fun k d q => by
    obtain ⟨a, q1, q2⟩ := A.scn.hp k d q
    exact ⟨a, q1, fun z1 z2 => by omega, fun _ => q2⟩
  have Ago := A.go.trans gl
  have Akept : ∀ b o, H2 b = some o → b ∉ ι ++ [xa] → H4 b = some o := fun b o q z => by
    rw [kp b fun w => ?_]
    · exact A.kept b o q z
    · rcases A.go.nw b w with w | w
      · exact z w
      · rw [q] at w; cases w
  -- the frozen instance
  have eq2' : (match h2[h.length]? with
    | some (.ins c fs) => (match thawF h.length h2 fs with
      | some gs => if (h2.take h.length).all (MP.low h.length) then R.ok (D.ins c gs) (h2.take h.length) else .no
      | none => .no)
    | _ => .no) = R.ok d h' := eq2
  have pre : ∀ k, k < h.length → ι3[k]? = ι[k]? := fun k hk => by
    have hk' : k < ι.length := by rw [rl.hl]; exact hk
    rw [List.getElem?_eq_getElem hk']
    refine Ago.pre k _ ?_
    rw [List.getElem?_append_left hk']
    exact List.getElem?_eq_getElem hk'
  have muS : ∀ a, Mu S.M0 ι e σ a → ((Mu S.M0 ι e σ a ∨ a = xa) ∨ a ∈ ι3) := fun a m => .inl (.inl m)
  have hg : Go ι (Mu S.M0 ι e σ) H ι (Mu S.M0 ι e σ) H4 := by
    refine ⟨fun n a q => q, fun a o q m => ?_, fun a o q z => z, fun a z => .inl z, fun a o q => Ago.live a o (s3 a o q)⟩
    refine Ago.kept a o (s3 a o q) fun z => ?_
    rcases z with z | z
    · exact m z
    · subst z; rw [hx] at q; cases q
  cases hi : h2[h.length]? with
  | none => rw [hi] at eq2'; cases eq2'
  | some di =>
    rw [hi] at eq2'
    cases di <;> first | (cases eq2'; done) | skip
    rename_i c' fs
    cases ht : thawF h.length h2 fs with
    | none => simp only [ht] at eq2'; cases eq2'
    | some gs =>
      simp only [ht] at eq2'
      obtain ⟨hlow, eq3⟩ := ite_ok eq2'
      cases eq3
      have hln : h.length < h2.length := by
        by_cases z : h.length < h2.length
        · exact z
        · rw [List.getElem?_eq_none (by omega)] at hi; cases hi
      refine K H4 _ hg ?_ ?_
      · refine ⟨rl.len, fun i d q => ?_, fun i d q => ?_, rl.dist, ?_, rl.hd, fun n d q => ?_, fun b o q z => ?_, rl.fresh, rl.pre, fun a m => ?_⟩
        · obtain ⟨v, q1, q2⟩ := rl.val i d q
          exact ⟨v, q1, q2.go hg⟩
        · obtain ⟨a, q1, q2, q3, q4⟩ := rl.own i d q
          refine ⟨a, q1, q2, q3, q4.go hg fun o qo => Akept a o (s3 a o qo) fun z => ?_⟩
          rcases List.mem_append.mp z with z | z
          · exact q3 z
          · have : a = xa := by simpa using z
            subst this
            rw [hx] at qo; cases qo
        · rw [List.length_take, rl.hl]; omega
        · have hnl : n < h.length := by
            by_cases z : n < h.length
            · exact z
            · rw [List.getElem?_eq_none (by rw [List.length_take]; omega)] at q; cases q
          rw [List.getElem?_take_of_lt hnl] at q
          obtain ⟨a, q1, _, q2⟩ := lp n d q
          have q2 := q2 (by omega)
          rw [pre n hnl] at q1
          refine ⟨a, q1, q2.low pre muS ?_⟩
          have := List.all_eq_true.mp hlow d (List.mem_of_getElem? (by rw [List.getElem?_take_of_lt hnl]; exact q))
          exact this
        · refine Akept b o (s3 b o (rl.kept b o q z)) fun z' => ?_
          rcases List.mem_append.mp z' with z' | z'
          · rcases rl.fresh b z' with w | w
            · exact z w
            · rw [q] at w; cases w
          · have : b = xa := by simpa using z'
            subst this
            have := rl.kept b o q z
            rw [hx] at this; cases this
        · obtain ⟨o, q⟩ := rl.mz a m
          exact Ago.live a o (s3 a o q)
      · obtain ⟨a, q1, _, q2⟩ := lp _ _ hi
        have q2 := q2 (Nat.le_refl _)
        have hax : a = xa := by
          have := Ago.pre _ _ hxn
          rw [q1] at this
          exact (Option.some.inj this)
        subst hax
        cases q2 with
        | ins q3 q4 =>
          refine .ins nxm q3 (thawF_rep pre muS (fun k d q => let ⟨a, q1, q2, _⟩ := lp k d q; ⟨a, q1, q2⟩) (fun k a' hk ha' => ?_) ⟨_, _, hi⟩ q4 ht)
          have nin : a' ∉ ι ++ [a] := fun z => by
            obtain ⟨k', hk', rfl⟩ := List.mem_iff_getElem.mp z
            have e1 := Ago.pre k' _ (List.getElem?_eq_getElem hk')
            have e2 : k = k' := (List.getElem?_inj (by
              by_cases w : k < ι3.length
              · exact w
              · rw [List.getElem?_eq_none (by omega)] at ha'; cases ha') A.scn.hd).mp (ha'.trans e1.symm)
            rw [List.length_append, rl.hl] at hk'
            have : ([a] : List Addr).length = 1 := rfl
            omega
          rcases Ago.nw a' (List.mem_of_getElem? ha') with z | z
          · exact absurd z nin
          · refine rl.not ?_
            cases q : H a' with
            | none => rfl
            | some o => rw [s3 a' o q] at z; cases z
theorem e_mk {c : Nat} {l : Ms} (G : Gd tb Φ x N j S X) (np : ∀ f ds h d h', Φ f ds h = .ok d h' → ds.length = (x.fps f).length) (hs : X.env.scope = sc) (h1 : x.clN c = some y) (h2 : glB sc y = true) (h3 : dbgOk y = true) (hl : PA X es (tEs tb Φ S l)) (hz : es = [] → l = .nil) (hp : es.all plainA = true) :
    PE X (.Call (.Name y p) es [] pos) (tE tb Φ S (.mk c l)) := by
  have hm := G.tx.cl c y h1
  have hK : S.C.K = X.K := by rw [G.C]
  have hca : S.C.ca = x.ca := by rw [G.C]
  cases hi : tb.init c with
  | none =>
    refine ⟨fun pins s σ H Q I ⟨ι, e, h, rl, d, h', eq, K⟩ => ?_⟩
    obtain ⟨ds, h1, e1, eq⟩ := bind_ok eq
    rw [hi] at eq
    cases eq
  | some f =>
    by_cases hq : (l.len + 1) + (tb.dfl f (l.len + 1)).length = (x.fps f).length
    · obtain ⟨dus, dvs, hb, hd, hr⟩ := G.tx.bndD f (l.len + 1) hq
      rw [hK] at hb
      have hM : Mk X.K (x.ca c) (x.fa f) := by rw [← hK]; exact G.tx.mkr c f hi
      have t1 : PE X (.Call (.Name y p) es [] pos) (tMake (x.ca c) (spF S.C (x.fps f).length (x.frs f) (Φ f)) dvs (fun _ _ _ => False) (tEs tb Φ S l)) := by
        cases es with
        | nil => exact PE.imp (pe_make0 hM (G.fn f) G.room (glB_of h2 hs) hm hb hd pass0 (dbg1 h3)) fun σ H Q q => nil_of (hz rfl) q
        | cons e es =>
          have h' : (plainA e && es.all plainA) = true := hp
          rw [Bool.and_eq_true] at h'
          exact pe_make hM (G.fn f) G.room (glB_of h2 hs) hm hb hd pass0 hl (dbg1 h3) (plain_star h'.1) (plain_any h'.2)
      refine PE.imp (PE.lock t1) fun σ H Q ⟨ι, e, h, rl, d, h', eq, K⟩ => ?_
      obtain ⟨ds, h1, e1, eq⟩ := bind_ok eq
      rw [hi] at eq
      obtain ⟨dr, h2, e2, eq⟩ := bind_ok eq
      cases dr <;> first | (cases eq; done) | skip
      rw [evs_len e1] at e2
      refine ⟨ι, e, h, rl, ds, h1, e1, fun ι1 H1 vs g1 rl1 r1 xa dx hx hdx hne => ?_⟩
      have rr := r1.append (hr ι1 (Mu S.M0 ι1 e σ) H1)
      rw [← hca]
      exact mk_core (c := c) rl1 rr (by rw [rr.length]; have := np _ _ _ _ _ e2; simpa using this) e2 eq (fun H' v g rl' r => K ι1 H' v (g1.trans g) rl' r) hx hdx hne
    · refine ⟨fun pins s σ H Q I ⟨ι, e, h, rl, d, h', eq, K⟩ => ?_⟩
      obtain ⟨ds, h1, e1, eq⟩ := bind_ok eq
      rw [hi] at eq
      obtain ⟨dr, h2, e2, eq⟩ := bind_ok eq
      have q := np _ _ _ _ _ e2
      rw [List.length_cons, List.length_append, evs_len e1] at q
      exact absurd (by omega) hq
end
end MP

set_option maxRecDepth 100000
set_option maxHeartbeats 1000000
/-! MP15: stores, blocks' scenes, what is walked. -/
namespace MP
open PySem PySem.Spec PyProof.Rows L2

theorem wipe_get (σ : L2.St) (k : Nat) : ∀ ws : List Nat, (L2.wipe σ ws)[k]? = if k ∈ ws then (σ[k]?).map (fun _ => none) else σ[k]?
  | [] => by simp [L2.wipe]
  | w :: ws => by
    unfold L2.wipe
    rw [List.getElem?_set]
    by_cases h : w = k
    · subst h
      by_cases hl : w < (L2.wipe σ ws).length
      · have hl' : w < σ.length := by rw [← wipe_length σ ws]; exact hl
        rw [if_pos rfl, if_pos hl, if_pos (by simp), List.getElem?_eq_getElem hl']; rfl
      · have hl' : σ.length ≤ w := by rw [← wipe_length σ ws]; omega
        rw [if_pos rfl, if_neg hl, if_pos (by simp), List.getElem?_eq_none hl']; rfl
    · rw [if_neg h, wipe_get σ k ws]
      have : k ∈ w :: ws ↔ k ∈ ws := by simp [show ¬ k = w from fun z => h z.symm]
      simp only [this]
theorem wipeE_len : ∀ (ws : List Nat) (e : Ev), (wipeE e ws).length = e.length
  | [], e => rfl
  | w :: ws, e => by
    show (wipeE (e.set w .no) ws).length = _
    rw [wipeE_len ws, List.length_set]
theorem wipeE_get (k : Nat) : ∀ (ws : List Nat) (e : Ev), (wipeE e ws)[k]? = if k ∈ ws then (e[k]?).map (fun _ => Slot.no) else e[k]?
  | [], e => by simp [wipeE]
  | w :: ws, e => by
    show (wipeE (e.set w .no) ws)[k]? = _
    rw [wipeE_get k ws, List.getElem?_set]
    by_cases h : w = k
    · subst h
      by_cases hl : w < e.length
      · rw [if_pos rfl, if_pos hl, List.getElem?_eq_getElem hl]
        by_cases hw : w ∈ ws <;> simp [hw]
      · rw [if_pos rfl, if_neg hl, List.getElem?_eq_none (by omega)]
        by_cases hw : w ∈ ws <;> simp [hw]
    · have : k ∈ w :: ws ↔ k ∈ ws := by simp [show ¬ k = w from fun z => h z.symm]
      rw [if_neg h]
      simp only [this]
theorem noOwn_get {e : Ev} {ws : List Nat} (h : noOwn e ws = true) {k : Nat} {d : D} (hk : k ∈ ws) : e[k]? ≠ some (.own d) := fun z => by
  have := List.all_eq_true.mp h k hk
  simp only [z] at this
  cases this
theorem noOwn_of {e : Ev} {ws : List Nat} (h : ∀ k ∈ ws, ∀ d, e[k]? ≠ some (.own d)) : noOwn e ws = true := List.all_eq_true.mpr fun k hk => by
  have := h k hk
  cases z : e[k]? with
  | none => rfl
  | some s => cases s with
    | own d => exact absurd z (this d)
    | _ => rfl

section
variable {S : SC} {ι : List Addr} {e : Ev} {h : MH} {σ : L2.St} {H H' : Hp}
/-- the same slots' objects, the scene's other things as they were -/
theorem Rel.re {e' : Ev} {σ' : L2.St} (rl : Rel S ι e h σ H) (len : e'.length = σ'.length) (own : ∀ i a, OwnAt e' σ' i a → OwnAt e σ i a)
    (val : ∀ (i : Nat) (d : D), e'[i]? = some (.val d) → ∃ v, σ'[i]? = some (some v) ∧ Rep S.C ι (Mu S.M0 ι e σ) H v d) (sl : ∀ (i : Nat) (d : D), e'[i]? = some (.own d) → e[i]? = some (.own d) ∧ σ'[i]? = σ[i]?) : Rel S ι e' h σ' H := by
  have mu : ∀ a, Mu S.M0 ι e' σ' a → Mu S.M0 ι e σ a := fun a m => by
    rcases m with m | m | ⟨i, m⟩
    · exact .inl m
    · exact .inr (.inl m)
    · exact .inr (.inr ⟨i, own i a m⟩)
  refine ⟨len, fun i d q => ?_, fun i d q => ?_, fun i j a p q => rl.dist i j a (own i a p) (own j a q), rl.hl, rl.hd, fun n d q => ?_, rl.kept, rl.fresh, rl.pre, rl.mz⟩
  · obtain ⟨v, h1, h2⟩ := val i d q
    exact ⟨v, h1, h2.go (.less mu)⟩
  · obtain ⟨q1, q2⟩ := sl i d q
    obtain ⟨a, h1, h2, h3, h4⟩ := rl.own i d q1
    exact ⟨a, q2.trans h1, h2, h3, h4.go (.less mu) fun _ z => z⟩
  · obtain ⟨a, h1, h2⟩ := rl.hp n d q
    exact ⟨a, h1, h2.go (.less mu) fun _ z => z⟩
theorem set_some {α : Type} {l : List α} {i k : Nat} {x y : α} (h : (l.set i x)[k]? = some y) : (k = i ∧ y = x ∧ i < l.length) ∨ (k ≠ i ∧ l[k]? = some y) := by
  rw [List.getElem?_set] at h
  split at h
  · rename_i e
    split at h
    · cases h; exact .inl ⟨e.symm, rfl, by assumption⟩
    · cases h
  · rename_i e
    exact .inr ⟨fun z => e z.symm, h⟩
theorem Rel.setVal {i : Nat} {v : V} {d : D} (rl : Rel S ι e h σ H) (r : Rep S.C ι (Mu S.M0 ι e σ) H v d) : Rel S ι (e.set i (.val d)) h (σ.set i (some v)) H := by
  refine rl.re (by rw [List.length_set, List.length_set]; exact rl.len) (fun k a ⟨⟨d', q1⟩, q2⟩ => ?_) (fun k d' q => ?_) (fun k d' q => ?_)
  · rcases set_some q1 with ⟨_, z, _⟩ | ⟨z, q1⟩
    · cases z
    · rcases set_some q2 with ⟨z', _⟩ | ⟨_, q2⟩
      · exact absurd z' z
      · exact ⟨⟨d', q1⟩, q2⟩
  · rcases set_some q with ⟨rfl, z, hl⟩ | ⟨z, q1⟩
    · cases z
      refine ⟨v, ?_, r⟩
      rw [List.getElem?_set_self (by rw [← rl.len]; exact hl)]
    · obtain ⟨v', h1, h2⟩ := rl.val k d' q1
      exact ⟨v', by rw [List.getElem?_set_ne (fun w => z w.symm)]; exact h1, h2⟩
  · rcases set_some q with ⟨rfl, z, hl⟩ | ⟨z, q1⟩
    · cases z
    · exact ⟨q1, by rw [List.getElem?_set_ne (fun w => z w.symm)]⟩
theorem own_wipe {ws : List Nat} (no : noOwn e ws = true) (i : Nat) (a : Addr) : OwnAt (wipeE e ws) (L2.wipe σ ws) i a ↔ OwnAt e σ i a := by
  unfold OwnAt
  rw [wipeE_get, wipe_get]
  by_cases hk : i ∈ ws
  · simp only [hk, if_true]
    constructor
    · rintro ⟨⟨d, q⟩, _⟩
      cases z : e[i]? with
      | none => rw [z] at q; cases q
      | some s => rw [z] at q; cases q
    · rintro ⟨⟨d, q⟩, _⟩
      exact absurd q (noOwn_get no hk)
  · simp only [hk, if_false]
theorem Rel.wipe {ws : List Nat} (rl : Rel S ι e h σ H) (no : noOwn e ws = true) : Rel S ι (wipeE e ws) h (L2.wipe σ ws) H := by
  refine rl.re (by rw [wipeE_len, wipe_length]; exact rl.len) (fun k a q => (own_wipe no k a).mp q) (fun k d q => ?_) (fun k d q => ?_)
  · rw [wipeE_get] at q
    by_cases hk : k ∈ ws
    · rw [if_pos hk] at q
      cases z : e[k]? with
      | none => rw [z] at q; cases q
      | some s => rw [z] at q; cases q
    · rw [if_neg hk] at q
      obtain ⟨v, h1, h2⟩ := rl.val k d q
      exact ⟨v, by rw [wipe_get, if_neg hk]; exact h1, h2⟩
  · rw [wipeE_get] at q
    by_cases hk : k ∈ ws
    · rw [if_pos hk] at q
      cases z : e[k]? with
      | none => rw [z] at q; cases q
      | some s => rw [z] at q; cases q
    · rw [if_neg hk] at q
      exact ⟨q, by rw [wipe_get, if_neg hk]⟩
theorem Mu.wipe {M0 : Addr → Prop} {ws : List Nat} (no : noOwn e ws = true) (a : Addr) : Mu M0 ι (wipeE e ws) (L2.wipe σ ws) a ↔ Mu M0 ι e σ a := by
  unfold Mu
  simp only [own_wipe no]
theorem wipe_set {i : Nat} {y : Option V} {ws : List Nat} (hi : i ∈ ws) : L2.wipe (σ.set i y) ws = L2.wipe σ ws := by
  refine List.ext_getElem? fun k => ?_
  rw [wipe_get, wipe_get, List.getElem?_set]
  by_cases h : i = k
  · subst h
    rw [if_pos hi, if_pos hi]
    split
    · split
      · rename_i z; rw [List.getElem?_eq_getElem z]; rfl
      · rename_i z; rw [List.getElem?_eq_none (by omega)]
    · rfl
  · simp only [h, if_false]
theorem wipeE_set {i : Nat} {y : Slot} {ws : List Nat} (hi : i ∈ ws) : wipeE (e.set i y) ws = wipeE e ws := by
  refine List.ext_getElem? fun k => ?_
  rw [wipeE_get, wipeE_get, List.getElem?_set]
  by_cases h : i = k
  · subst h
    rw [if_pos hi, if_pos hi]
    split
    · split
      · rename_i z; rw [List.getElem?_eq_getElem z]; rfl
      · rename_i z; rw [List.getElem?_eq_none (by omega)]
    · rfl
  · simp only [h, if_false]
theorem wipe_wipe {ws : List Nat} : L2.wipe (L2.wipe σ ws) ws = L2.wipe σ ws := by
  refine List.ext_getElem? fun k => ?_
  rw [wipe_get, wipe_get]
  by_cases h : k ∈ ws
  · simp only [h, if_true]; cases σ[k]? <;> rfl
  · simp only [h, if_false]
theorem wipeE_wipe {ws : List Nat} : wipeE (wipeE e ws) ws = wipeE e ws := by
  refine List.ext_getElem? fun k => ?_
  rw [wipeE_get, wipeE_get]
  by_cases h : k ∈ ws
  · simp only [h, if_true]; cases e[k]? <;> rfl
  · simp only [h, if_false]
theorem noOwn_wipe {ws : List Nat} : noOwn (wipeE e ws) ws = true := noOwn_of fun k hk d z => by
  rw [wipeE_get, if_pos hk] at z
  cases w : e[k]? with
  | none => rw [w] at z; cases z
  | some s => rw [w] at z; cases z
end

/-! ### stores to names -/
/-- a store's end: a new scene of the slots, what is wiped stays -/
def tG (tb : Tb) (C : RC) (p : Pat) : TG := fun v σ H Q => ∃ S ι e h d e', S.C = C ∧ Rel S ι e h σ H ∧ Rep S.C ι (Mu S.M0 ι e σ) H v d ∧ bindP p d e = some e' ∧
  ∀ σ', Rel S ι e' h σ' H → (∀ i a, OwnAt e' σ' i a → OwnAt e σ i a) → (∀ ws, patIn ws p = true → L2.wipe σ' ws = L2.wipe σ ws ∧ wipeE e' ws = wipeE e ws ∧ (noOwn e ws = true → noOwn e' ws = true)) → Q σ' H
def setL (e : Ev) (is : List Nat) (ds : List D) : Ev := (is.zip ds).foldl (fun e q => e.set q.1 (.val q.2)) e
def tGL (C : RC) (is : List Nat) : TGs := fun vs σ H Q => ∃ S ι e h ds, S.C = C ∧ Rel S ι e h σ H ∧ Reps S.C ι (Mu S.M0 ι e σ) H vs ds ∧ is.length = ds.length ∧
  ∀ σ', Rel S ι (setL e is ds) h σ' H → (∀ i a, OwnAt (setL e is ds) σ' i a → OwnAt e σ i a) → (∀ ws, is.all (ws.contains ·) = true → L2.wipe σ' ws = L2.wipe σ ws ∧ wipeE (setL e is ds) ws = wipeE e ws ∧ (noOwn e ws = true → noOwn (setL e is ds) ws = true)) → Q σ' H
theorem locB_of {sc : Scope} {y : Str} (h : locB sc y = true) : Loc sc y := by
  unfold locB at h
  split at h
  · exact .inl (by assumption)
  · exact .inr (by assumption)
  · cases h
theorem PG.imp {X : Cx} {e : Expr} {t t' : TG} (h : PG X e t) (i : ∀ v σ H Q, t' v σ H Q → t v σ H Q) : PG X e t' := ⟨fun pins s σ H y u Q I r q => h.run pins s σ H y u Q I r (i y σ H Q q)⟩
theorem PGs.imp {X : Cx} {es : List Expr} {t t' : TGs} (h : PGs X es t) (i : ∀ v σ H Q, t' v σ H Q → t v σ H Q) : PGs X es t' := ⟨fun pins s σ H ys us Q I r q => h.run pins s σ H ys us Q I r (i ys σ H Q q)⟩
theorem own_setVal {e : Ev} {σ : L2.St} {i k : Nat} {a : Addr} {d : D} {v : V} (q : OwnAt (e.set i (.val d)) (σ.set i (some v)) k a) : OwnAt e σ k a := by
  obtain ⟨⟨d', q1⟩, q2⟩ := q
  rcases set_some q1 with ⟨_, z, _⟩ | ⟨z, q1⟩
  · cases z
  · rcases set_some q2 with ⟨z', _⟩ | ⟨_, q2⟩
    · exact absurd z' z
    · exact ⟨⟨d', q1⟩, q2⟩
theorem noOwn_setVal {e : Ev} {i : Nat} {d : D} {ws : List Nat} (no : noOwn e ws = true) : noOwn (e.set i (.val d)) ws = true := noOwn_of fun k hk d' z => by
  rcases set_some z with ⟨_, w, _⟩ | ⟨_, w⟩
  · cases w
  · exact noOwn_get no hk w
theorem g_nm {tb : Tb} {C : RC} {X : Cx} {i : Nat} {y : Str} {pos : Pos} (nd : X.N.Nodup) (hN : X.N[i]? = some y) (hl : Loc X.env.scope y) (hf : X.fn y = true ∨ X.env.scope.names.lookup y = some .local) : PG X (.Name y pos) (tG tb C (.nm i)) :=
  PG.imp (pg_name nd hN hl hf) fun v σ H Q ⟨S, ι, e, h, d, e', hC, rl, r, q, K⟩ => by
    cases q
    refine K _ (rl.setVal r) (fun k a q => own_setVal q) fun ws hw => ?_
    have hi : i ∈ ws := by simpa [patIn] using hw
    exact ⟨wipe_set hi, wipeE_set hi, noOwn_setVal⟩
theorem chkNms_length {N : List Str} {sc : Scope} : ∀ {l : List Nat} {es : List Expr}, chkNms N sc l es = true → l.length = es.length
  | [], [], _ => rfl
  | i :: l, e :: es, h => by
    cases e <;> first | (cases h; done) | exact congrArg (· + 1) (chkNms_length (and3 h).2.2)
  | [], _ :: _, h => by cases h
  | _ :: _, [], h => by cases h
theorem gs_nms {C : RC} {X : Cx} {s0 : Scope} (nd : X.N.Nodup) (hf : ∀ y, locB s0 y = true → Loc X.env.scope y ∧ (X.fn y = true ∨ X.env.scope.names.lookup y = some .local)) : ∀ {l : List Nat} {es : List Expr}, chkNms X.N s0 l es = true → PGs X es (tGL C l)
  | [], [], _ => PGs.imp pgs_nil fun vs σ H Q ⟨S, ι, e, h, ds, hC, rl, r, q, K⟩ => by
      cases ds with
      | cons _ _ => cases q
      | nil =>
        cases r
        exact ⟨rfl, K σ rl (fun _ _ z => z) fun ws hw => ⟨rfl, rfl, fun z => z⟩⟩
  | i :: l, e :: es, h => by
      cases e <;> first | (cases h; done) | skip
      rename_i y p
      obtain ⟨h1, h2, h3⟩ := and3 h
      refine PGs.imp (pgs_cons (pg_name nd (of_decide_eq_true h1) (hf y h2).1 (hf y h2).2) (gs_nms (C := C) nd hf h3)) fun vs σ H Q ⟨S, ι, e, h, ds, hC, rl, r, q, K⟩ => ?_
      cases r with
      | nil => cases q
      | @cons v vs d ds r rs =>
        have rl' := rl.setVal (i := i) r
        have mu : ∀ a, Mu S.M0 ι (e.set i (.val d)) (σ.set i (some v)) a → Mu S.M0 ι e σ a := fun a m => by
          rcases m with m | m | ⟨k, m⟩
          · exact .inl m
          · exact .inr (.inl m)
          · exact .inr (.inr ⟨k, own_setVal m⟩)
        refine ⟨v, vs, rfl, S, ι, _, h, ds, hC, rl', rs.go (.less mu), by simpa using q, fun σ' rl2 ow hw => ?_⟩
        refine K σ' rl2 (fun k a z => own_setVal (ow k a z)) fun ws hw' => ?_
        have hw2 : (ws.contains i && l.all (ws.contains ·)) = true := hw'
        obtain ⟨w1, w2⟩ := and2 hw2
        have hi : i ∈ ws := by simpa using w1
        obtain ⟨a1, a2, a3⟩ := hw ws w2
        exact ⟨a1.trans (wipe_set hi), a2.trans (wipeE_set hi), fun z => a3 (noOwn_setVal z)⟩
  | [], _ :: _, h => by cases h
  | _ :: _, [], h => by cases h
end MP

set_option maxRecDepth 100000
set_option maxHeartbeats 1000000
/-! MP16: patterns, what is walked, comprehensions. -/
namespace MP
open PySem PySem.Spec PyProof.Rows L2

theorem nms_each {N : List Str} {sc : Scope} {env : Env} : ∀ {l : List Nat} {es : List Expr}, chkNms N sc l es = true → (assignEach es env).length = es.length ∧ (assignEach es env).findIdx? (·.1) = none
  | [], [], _ => ⟨rfl, rfl⟩
  | i :: l, e :: es, h => by
    cases e <;> first | (cases h; done) | skip
    rename_i y p
    obtain ⟨a, b⟩ := nms_each (env := env) (and3 h).2.2
    have e1 : assignEach (.Name y p :: es) env = (false, assign (.Name y p) env) :: assignEach es env := rfl
    rw [e1]
    refine ⟨by rw [List.length_cons, List.length_cons, a], ?_⟩
    rw [List.findIdx?_cons, if_neg (by simp), b]
    rfl
  | [], _ :: _, h => by cases h
  | _ :: _, [], h => by cases h
/-- a pattern's store -/
theorem g_pat {tb : Tb} {C : RC} {X : Cx} {p : Pat} {tg : Expr} {s0 : Scope} (hK : C.K = X.K) (hc : X.calm = true) (nd : X.N.Nodup) (hf : ∀ y, locB s0 y = true → Loc X.env.scope y ∧ (X.fn y = true ∨ X.env.scope.names.lookup y = some .local)) (h : chkP X.N s0 p tg = true) : PG X tg (tG tb C p) := by
  cases p with
  | nm i =>
    cases tg <;> first | (cases h; done) | skip
    obtain ⟨h1, h2⟩ := and2 h
    exact g_nm nd (of_decide_eq_true h1) (hf _ h2).1 (hf _ h2).2
  | tp l =>
    cases tg <;> first | (cases h; done) | skip
    rename_i es k pos
    obtain ⟨h1, h2⟩ := and2 h
    obtain ⟨q1, q2⟩ := nms_each (env := X.env) h1
    refine PG.imp (pg_tup hc (gs_nms (C := C) nd hf h1) q1 q2) fun v σ H Q ⟨S, ι, e, h, d, e', hC, rl, r, q, K⟩ => ?_
    cases r with
    | @tup a vs ds ht rs =>
      have q' : (if l.length = ds.length then some (setL e l ds) else none) = some e' := q
      split at q'
      · rename_i hl
        cases q'
        refine ⟨a, vs, rfl, ?_, ?_, S, ι, e, h, ds, hC, rl, rs, hl, K⟩
        · rw [← hK, ← hC]; exact ht.sq
        · rw [rs.length, ← hl]; exact chkNms_length h1
      · cases q'
    | _ => cases q

/-! ### what is walked -/
def Wk (C : RC) (J : L2.It) (ds : List D) (ι : List Addr) (M : Addr → Prop) (H : Hp) : Prop := ∀ ι' M' H', Go ι M H ι' M' H' → ∀ i : Nat,
  (∀ d, ds[i]? = some d → J.go i H' ∧ ∀ x H3, J.yld i H' x H3 → Same H' H3 ∧ Rep C ι' M' H3 x d) ∧ (ds.length ≤ i → J.stop i H')
def tI (tb : Tb) (Φ : Nat → List D → MH → R D) (S : SC) (it : It) : TI := fun σ H R => ∃ ι e h, Rel S ι e h σ H ∧ ∃ ds h', evI tb Φ it e h = .ok ds h' ∧
  ∀ ι' H' J, Go ι (Mu S.M0 ι e σ) H ι' (Mu S.M0 ι' e σ) H' → Rel S ι' e h' σ H' → Wk S.C J ds ι' (Mu S.M0 ι' e σ) H' → R J H'
theorem PI.imp {X : Cx} {tg e : Expr} {t t' : TI} (h : PI X tg e t) (i : ∀ σ H R, t' σ H R → t σ H R) : PI X tg e t' := ⟨fun pins s σ H R I q => h.run pins s σ H R I (i σ H R q)⟩
def iSeq (K : PySem.W.Frag) (tl : TE) : TI := fun σ H R => tl σ H fun x H1 => ∃ a, x = .ref a ∧ ((∃ xs, SqL K H1 a xs ∧ R (Itl K a) H1) ∨ (∃ xs, SqT K H1 a xs ∧ R (Itt K a) H1))
theorem pi_seq {X : Cx} {tg l : Expr} {tl : TE} (hl : PE X l tl) : PI X tg l (iSeq X.K tl) := by
  refine ⟨fun pins s σ H R I h => ?_⟩
  refine thn (hl.run pins s σ H _ I h) fun v s1 ⟨x, H1, I1, r1, a, e, q1⟩ => ?_
  subst e
  cases r1
  have fin : ∀ b ∈ [s1.heap.objs.size], FpOk X pins H1 b := fun b hb => by
    have e : b = s1.heap.objs.size := by simpa using hb
    subst e
    exact I1.fpOk (Nat.le_refl _) (I1.hok.fresh (Nat.le_refl _))
  rcases q1 with ⟨xs, hq, q⟩ | ⟨xs, hq, q⟩
  · obtain ⟨its, rv, p, hz⟩ := I1.list hq
    refine wpAny_pyIter_list p.isList ?_
    exact ⟨s1.heap.objs.size, [s1.heap.objs.size], _, _, H1, rfl, I1.kept (t' := s1.toks) fun b o e => Heap.get?_push_of_some _ e, turn_list a _, ⟨_, Heap.get?_push_size _ rfl, rfl, rfl⟩, fin, q⟩
  · obtain ⟨its, rv, p, hz⟩ := I1.tuple hq
    refine wpAny_pyIter_tuple (show s1.heap.IsTuple a its.toArray from p) ?_
    exact ⟨s1.heap.objs.size, [s1.heap.objs.size], _, _, H1, rfl, I1.kept (t' := s1.toks) fun b o e => Heap.get?_push_of_some _ e, turn_tuple a _, ⟨_, Heap.get?_push_size _ rfl, rfl, rfl⟩, fin, q⟩
/-! dicts that stay: their one object is known -/
def FixAt (K : PySem.W.Frag) (a : Addr) (o : Obj) (H : Hp) : Prop := (∃ u, H a = some (.frz o u)) ∨ K.lookup a = some o
def Itf (K : PySem.W.Frag) (a : Addr) (o : Obj) (vs : List V) : L2.It :=
  ⟨fun i H => FixAt K a o H ∧ i < vs.length, fun i H y H' => H' = H ∧ vs[i]? = some y, fun i H => FixAt K a o H ∧ vs.length ≤ i⟩
theorem FixAt.get {X : Cx} {pins : List (Addr × Obj)} {σ : L2.St} {s : Shared} {H : Hp} {a : Addr} {o : Obj} (I : Inv X pins σ H s) (f : FixAt X.K a o H) : s.heap.get? a = some o := by
  rcases f with ⟨u, q⟩ | q
  · exact (show s.heap.get? a = some o ∧ _ from I.hok a _ q).1
  · exact I.kIn a o q
theorem turn_fix {P : Program} {w : World} {K : PySem.W.Frag} {tg : Expr} {a : Addr} {o : Obj} {es : Array DictEntry} {ep : Nat} {vs : List V} (c : Addr) (hod : o.data = .dict es ep) (hv : Vals vs (es.toList.map (·.key))) :
    Turn P w K tg (Itf K a o vs) [c] c (fun i h => h.IsKeyIter c a i vs.length ep) := by
  have hl : es.size = vs.length := by have := hv.length; simp at this; exact this.symm
  constructor
  case mem => simp
  case obj =>
    intro i h st b hb
    obtain rfl : b = c := by simpa using hb
    obtain ⟨ob, e, _, dd⟩ := st
    exact ⟨ob, e, fun v z => by rw [dd] at z; cases z⟩
  case keep => exact fun i h h' st k => st.at fun ob e => k c (by simp) ob e
  case item =>
    intro X hP hw hK hc i pins s σ H E I hf st hg
    subst hP hw hK
    obtain ⟨fx, hi⟩ := hg
    obtain ⟨n0, n1, n2, n3, n4, n5⟩ := hf c (by simp)
    have gd := fx.get I
    have hi' : i < es.size := by omega
    refine next_key_item st gd hod hl (Array.getElem?_eq_getElem hi') fun h' st' sb => ?_
    have I1 : Inv X pins σ H { s with heap := h' } := I.turned (t' := s.toks) (fun b ob hb e => (sb.2 b hb).trans e) n0 n1 n3 n4 n5
    obtain ⟨ob, e, cc, dd⟩ := id st'
    have hrel : RelV vs[i] es[i].key := by
      obtain ⟨u, h1, h2⟩ := paired_get hv (i := i) (List.getElem?_eq_getElem hi)
      rw [List.getElem?_map, Array.getElem?_toList, Array.getElem?_eq_getElem hi'] at h1
      cases h1
      exact h2
    exact ⟨es[i].key, rfl, go_of (s := { s with heap := h' }) e cc dd (by decide) ⟨vs[i], H, I1, hrel, ⟨rfl, List.getElem?_eq_getElem hi⟩, st', fun b hb => (hf b hb).1⟩⟩
  case done =>
    intro X hP hw hK hc i pins s σ H E I hf st hg
    subst hP hw hK
    obtain ⟨fx, hi⟩ := hg
    obtain ⟨n0, n1, n2, n3, n4, n5⟩ := hf c (by simp)
    exact next_key_end (I.ok.hd hc) st (fx.get I) hod hl hi fun h' eb => ⟨rfl, I.turned (t' := s.toks) (fun b ob hb e => eb b ob hb e) n0 n1 n3 n4 n5⟩
  case self => exact fun A i s Q E st q => wpAny_pyIter_keyiter st q
def iSeqD (X : Cx) (ca : Nat → Addr) (tl : TE) : TI := fun σ H R => tl σ H fun x H1 => (∃ a, x = .ref a ∧ ((∃ xs, SqL X.K H1 a xs ∧ R (Itl X.K a) H1) ∨ (∃ xs, SqT X.K H1 a xs ∧ R (Itt X.K a) H1))) ∨
  (∃ ι M a ds, x = .ref a ∧ Rep (cx X ca) ι M H1 (.ref a) (.dct ds) ∧ ∀ J, Wk (cx X ca) J (ds.map (·.1)) ι M H1 → R J H1) ∨
  ∃ z, x = .str z ∧ R (Its z) H1
theorem pi_seqD {X : Cx} {ca : Nat → Addr} {tg l : Expr} {tl : TE} (hl : PE X l tl) : PI X tg l (iSeqD X ca tl) := by
  refine ⟨fun pins s σ H R I h => ?_⟩
  refine thn (hl.run pins s σ H _ I h) fun v s1 ⟨x, H1, I1, r1, q1⟩ => ?_
  rcases q1 with ⟨a, e, q1⟩ | ⟨ι, M, a, ds, e, rp, q⟩ | ⟨z, e, q⟩
  rotate_left 2
  · subst e
    obtain ⟨t, rfl⟩ := r1
    cases ha : z.cps.all (· < 128) with
    | false => exact wpAny_pyIter_wide ha (pi_one (tk := s1.toks) I1 _ (turn_str _ z t "str_iterator" (.inr rfl)) ⟨_, Heap.get?_push_size _ rfl, rfl, rfl⟩ q)
    | true => exact wpAny_pyIter_ascii ha (pi_one (tk := s1.toks) I1 _ (turn_str _ z t "str_ascii_iterator" (.inl rfl)) ⟨_, Heap.get?_push_size _ rfl, rfl, rfl⟩ q)
  · subst e
    cases r1
    have fin : ∀ b ∈ [s1.heap.objs.size], FpOk X pins H1 b := fun b hb => by
      have e : b = s1.heap.objs.size := by simpa using hb
      subst e
      exact I1.fpOk (Nat.le_refl _) (I1.hok.fresh (Nat.le_refl _))
    rcases q1 with ⟨xs, hq, q⟩ | ⟨xs, hq, q⟩
    · obtain ⟨its, rv, p, hz⟩ := I1.list hq
      refine wpAny_pyIter_list p.isList ?_
      exact ⟨s1.heap.objs.size, [s1.heap.objs.size], _, _, H1, rfl, I1.kept (t' := s1.toks) fun b o e => Heap.get?_push_of_some _ e, turn_list a _, ⟨_, Heap.get?_push_size _ rfl, rfl, rfl⟩, fin, q⟩
    · obtain ⟨its, rv, p, hz⟩ := I1.tuple hq
      refine wpAny_pyIter_tuple (show s1.heap.IsTuple a its.toArray from p) ?_
      exact ⟨s1.heap.objs.size, [s1.heap.objs.size], _, _, H1, rfl, I1.kept (t' := s1.toks) fun b o e => Heap.get?_push_of_some _ e, turn_tuple a _, ⟨_, Heap.get?_push_size _ rfl, rfl, rfl⟩, fin, q⟩
  · subst e
    cases r1
    obtain ⟨lo, z, o, es, ep, h1, h2, h3, en⟩ := dct_raw I1 (rp.vw fun k z => nomatch z)
    obtain ⟨vs, hv, rs⟩ := en.keys
    have hl' : es.size = vs.length := by have := hv.length; simp at this; exact this.symm
    have fx : FixAt X.K a o H1 ∧ ∀ ι' M' H', Go ι M H1 ι' M' H' → FixAt X.K a o H' := by
      cases rp with
      | dctK m q _ =>
        have h1' := (show s1.heap.get? a = some _ ∧ _ from I1.hok a _ q).1
        rw [h1] at h1'
        cases h1'
        exact ⟨.inl ⟨_, q⟩, fun ι' M' H' g => .inl ⟨_, g.kept _ _ q m⟩⟩
      | dctT m q _ =>
        have h1' := (show s1.heap.get? a = some _ ∧ _ from I1.hok a _ q).1
        rw [h1] at h1'
        cases h1'
        exact ⟨.inl ⟨_, q⟩, fun ι' M' H' g => .inl ⟨_, g.kept _ _ q m⟩⟩
      | dctG q _ =>
        obtain ⟨es', n, hlk, _⟩ := q
        have := I1.kIn a _ hlk
        rw [h1] at this
        cases this
        exact ⟨.inr hlk, fun _ _ _ _ => .inr hlk⟩
    refine iter_keys lo h1 h2 h3 (pi_one (tk := s1.toks) I1 _ (turn_fix (a := a) (o := o) (K := X.K) _ h3 hv) ⟨_, Heap.get?_push_size _ rfl, rfl, ?_⟩ (q _ fun ι' M' H' g i => ⟨fun d hd => ?_, fun hi => ⟨fx.2 _ _ _ g, by rw [rs.length]; exact hi⟩⟩))
    · rw [hl'] <;> rfl
    · obtain ⟨v, q1, q2⟩ := rs.get hd
      refine ⟨⟨fx.2 _ _ _ g, ?_⟩, fun x H3 ⟨e1, e2⟩ => ?_⟩
      · by_cases w : i < vs.length
        · exact w
        · rw [List.getElem?_eq_none (by omega)] at q1; cases q1
      · subst e1
        rw [q1] at e2
        cases e2
        exact ⟨Same.rfl', q2.go g⟩
section
variable {tb : Tb} {Φ : Nat → List D → MH → R D} {x : Tx} {N : List Str} {j : Nat} {S : SC} {X : Cx} {sc : Scope} {e ea eb tg : Expr} {a b : M} {pos p : Pos} {y : Str}
theorem wk_lst {C : RC} {ι : List Addr} {M : Addr → Prop} {H : Hp} {ad : Addr} {vs : List V} {ds : List D} (m : ¬ M ad) (h : H ad = some (.lst vs)) (r : Reps C ι M H vs ds) : Wk C (Itl C.K ad) ds ι M H := fun ι' M' H' g i => by
  have hs : SqL C.K H' ad vs := SqL.of (g.kept _ _ h m)
  refine ⟨fun d hd => ?_, fun hi => ⟨vs, hs, by rw [r.length]; exact hi⟩⟩
  obtain ⟨v, h1, h2⟩ := r.get hd
  refine ⟨⟨vs, v, hs, h1⟩, fun x H3 ⟨e1, e2⟩ => ?_⟩
  subst e1
  refine ⟨Same.rfl', ?_⟩
  have := e2 vs hs
  rw [h1] at this
  cases this
  exact h2.go g
theorem wk_tup {C : RC} {ι : List Addr} {M : Addr → Prop} {H : Hp} {ad : Addr} {vs : List V} {ds : List D} (h : TupAt C M H ad vs) (r : Reps C ι M H vs ds) : Wk C (Itt C.K ad) ds ι M H := fun ι' M' H' g i => by
  have hs : SqT C.K H' ad vs := (h.go g).sq
  refine ⟨fun d hd => ?_, fun hi => ⟨vs, hs, by rw [r.length]; exact hi⟩⟩
  obtain ⟨v, h1, h2⟩ := r.get hd
  refine ⟨⟨vs, v, hs, h1⟩, fun x H3 ⟨e1, e2⟩ => ?_⟩
  subst e1
  refine ⟨Same.rfl', ?_⟩
  have := e2 vs hs
  rw [h1] at this
  cases this
  exact h2.go g
theorem rngL_get {lo hi : Int} {i : Nat} {d : D} (h : (rngL lo hi)[i]? = some d) : i < (hi - lo).toNat ∧ d = .int (lo + i) := by
  have hl : i < (rngL lo hi).length := by
    by_cases z : i < (rngL lo hi).length
    · exact z
    · rw [List.getElem?_eq_none (by omega)] at h; cases h
  have hl2 := hl
  rw [rng_len] at hl2
  refine ⟨hl2, ?_⟩
  unfold rngL at h
  rw [List.getElem?_map, List.getElem?_range hl2] at h
  cases h
  rfl
theorem wk_str {C : RC} {ι : List Addr} {M : Addr → Prop} {H : Hp} {z : Str} : Wk C (Its z) (z.cps.toList.map fun c => D.str ⟨#[c]⟩) ι M H := fun ι' M' H' g i => by
  refine ⟨fun d hd => ?_, fun hi => by rw [List.length_map, Array.length_toList] at hi; exact hi⟩
  rw [List.getElem?_map] at hd
  obtain ⟨c, hc, rfl⟩ := Option.map_eq_some_iff.mp hd
  rw [Array.getElem?_toList] at hc
  refine ⟨?_, fun x H3 ⟨e1, c', h1, h2⟩ => ?_⟩
  · by_cases w : i < z.cps.size
    · exact w
    · rw [Array.getElem?_eq_none (by omega)] at hc; cases hc
  · subst e1 h2
    rw [hc] at h1
    cases h1
    exact ⟨Same.rfl', .str _⟩
theorem wk_rng {C : RC} {ι : List Addr} {M : Addr → Prop} {H : Hp} {lo hi : Int} : Wk C (Itr lo (hi - lo).toNat) (rngL lo hi) ι M H := fun ι' M' H' g i => by
  refine ⟨fun d hd => ?_, fun hi => by rw [rng_len] at hi; exact hi⟩
  obtain ⟨h1, rfl⟩ := rngL_get hd
  refine ⟨h1, fun x H3 ⟨e1, e2⟩ => ?_⟩
  subst e1 e2
  exact ⟨Same.rfl', .int _⟩
theorem i_val (G : Gd tb Φ x N j S X) (ha : PE X ea (tO tb Φ S a)) : PI X tg ea (tI tb Φ S (.val a)) := by
  have hK : S.C.K = X.K := by rw [G.C]
  refine PI.imp (pi_seqD (ca := x.ca) ha) fun σ H R ⟨ι, e, h, rl, ds, h', eq, K⟩ => ?_
  obtain ⟨xo, h1, e1, eq⟩ := bind_ok eq
  obtain ⟨eq2, rfl⟩ := of_ok eq
  obtain ⟨dx, hx, ht⟩ := Option.bind_eq_some_iff.mp eq2
  refine ⟨ι, e, h, rl, xo, h', e1, fun ι1 H1 v1 g1 rl1 r1 => ?_⟩
  cases xo with
  | own i => cases hx
  | d d =>
    have r1' : Rep S.C ι1 (Mu S.M0 ι1 e σ) H1 v1 d := r1
    have hd : d = dx := by cases d <;> first | exact Option.some.inj hx | cases hx
    subst hd
    cases r1' with
    | @tup ad vs dd hp rs =>
      cases ht
      refine .inl ⟨ad, rfl, .inr ⟨vs, by rw [← hK]; exact hp.sq, ?_⟩⟩
      rw [← hK]
      exact K ι1 H1 _ g1 rl1 (wk_tup hp rs)
    | @lst ad vs dd m hp rs =>
      cases ht
      refine .inl ⟨ad, rfl, .inl ⟨vs, SqL.of hp, ?_⟩⟩
      rw [← hK]
      exact K ι1 H1 _ g1 rl1 (wk_lst m hp rs)
    | @dctK ad o kvs dd m hp rs => cases ht; exact .inr (.inl ⟨ι1, _, ad, dd, rfl, by rw [← G.C]; exact .dctK m hp rs, fun J w => K ι1 H1 J g1 rl1 (by rw [G.C]; exact w)⟩)
    | @dctT ad o kvs dd m hp rs => cases ht; exact .inr (.inl ⟨ι1, _, ad, dd, rfl, by rw [← G.C]; exact .dctT m hp rs, fun J w => K ι1 H1 J g1 rl1 (by rw [G.C]; exact w)⟩)
    | @dctG ad kvs dd hp rs => cases ht; exact .inr (.inl ⟨ι1, _, ad, dd, rfl, by rw [← G.C]; exact .dctG hp rs, fun J w => K ι1 H1 J g1 rl1 (by rw [G.C]; exact w)⟩)
    | str z => cases ht; exact .inr (.inr ⟨z, rfl, K ι1 H1 _ g1 rl1 wk_str⟩)
    | _ => cases ht
theorem i_rng {z : Str} {pz : Pos} (G : Gd tb Φ x N j S X) (hs : X.env.scope = sc) (h2 : glo1 x sc z "range" = true) (hp : plainA ea = true) (ha : PE X ea (tE tb Φ S a)) : PI X tg (.Call (.Name z pz) [ea] [] pos) (tI tb Φ S (.rng a)) := by
  obtain ⟨rfl, h5, h6⟩ := glo1_of h2
  refine PI.imp (pi_range1 (glB_of h5 hs) (G.tx.fre _ h6) (pa_cons ha pa_nil (plain_star hp)) (plain_star hp)) fun σ H R ⟨ι, e, h, rl, ds, h', eq, K⟩ => ?_
  obtain ⟨dx, h1, e1, eq⟩ := bind_ok eq
  refine ⟨ι, e, h, rl, dx, h1, e1, fun ι1 H1 v1 g1 rl1 r1 => ?_⟩
  cases r1 <;> first | (cases eq; done) | skip
  rename_i i
  obtain ⟨hc, eq⟩ := ite_ok (show (if rngOk i then MP.R.ok (rngL 0 i) h1 else .no) = MP.R.ok ds h' from eq)
  cases eq
  obtain ⟨b1, b2⟩ := rngOk_of hc
  have w := wk_rng (C := S.C) (ι := ι1) (M := Mu S.M0 ι1 e σ) (H := H1) (lo := 0) (hi := i)
  rw [Int.sub_zero] at w
  exact ⟨i, rfl, b1, b2, K ι1 H1 _ g1 rl1 w⟩
theorem i_rng2 {z : Str} {pz : Pos} (G : Gd tb Φ x N j S X) (hs : X.env.scope = sc) (h2 : glo1 x sc z "range" = true) (hp : plainA ea = true) (hp2 : plainA eb = true) (ha : PE X ea (tE tb Φ S a)) (hb : PE X eb (tE tb Φ S b)) : PI X tg (.Call (.Name z pz) [ea, eb] [] pos) (tI tb Φ S (.rng2 a b)) := by
  obtain ⟨rfl, h5, h6⟩ := glo1_of h2
  refine PI.imp (pi_range2 (glB_of h5 hs) (G.tx.fre _ h6) (pa_cons ha (pa_cons hb pa_nil (plain_star hp2)) (plain_star hp)) ((plain_star hp).trans (by rw [plain_star hp2]; rfl)) (plain_star hp2)) fun σ H R ⟨ι, e, h, rl, ds, h', eq, K⟩ => ?_
  obtain ⟨dx, h1, e1, e4⟩ := bind_ok eq
  obtain ⟨dy, h3, e3, e5⟩ := bind_ok e4
  clear eq e4
  refine ⟨ι, e, h, rl, dx, h1, e1, fun ι1 H1 v1 g1 rl1 r1 => ⟨ι1, e, h1, rl1, dy, h3, e3, fun ι2 H2 v2 g2 rl2 r2 => ?_⟩⟩
  cases r1 <;> first | (cases e5; done) | skip
  cases r2 <;> first | (cases e5; done) | skip
  rename_i i k
  obtain ⟨hc, eq⟩ := ite_ok (show (if (rngOk i && rngOk k) = true then MP.R.ok (rngL i k) h3 else .no) = MP.R.ok ds h' from e5)
  cases eq
  obtain ⟨c1, c2⟩ := and2 hc
  obtain ⟨b1, b2⟩ := rngOk_of c1
  obtain ⟨b3, b4⟩ := rngOk_of c2
  exact ⟨i, k, rfl, ⟨b1, b2, b3, b4⟩, K ι2 H2 _ (g1.trans g2) rl2 wk_rng⟩
end
end MP

set_option maxRecDepth 100000
set_option maxHeartbeats 1000000
/-! MP17: list comprehensions. -/
namespace MP
open PySem PySem.Spec PyProof.Rows L2

section
variable {S : SC} {ι ι1 ι' : List Addr} {e : Ev} {h h' h1 : MH} {σ : L2.St} {H H1 H' : Hp} {D : Addr} {o o' : HO}
/-- back from a block's scene -/
theorem Rel.unwipe {S0 : SC} {ws : List Nat} (hC : S0.C = S.C) (rl1 : Rel S0 ι1 e h1 σ H1) (no : noOwn e ws = true) (rl : Rel S ι' (wipeE e ws) h' (L2.wipe σ ws) H') (g : Go ι1 (Mu S0.M0 ι1 e σ) H1 ι' (Mu S.M0 ι' e σ) H') : Rel S ι' e h' σ H' := by
  have g' : Go ι' (Mu S.M0 ι' (wipeE e ws) (L2.wipe σ ws)) H' ι' (Mu S.M0 ι' e σ) H' := .less fun a m => (Mu.wipe no a).mpr m
  refine ⟨rl1.len, fun i d q => ?_, fun i d q => ?_, rl1.dist, rl.hl, rl.hd, fun n d q => ?_, rl.kept, rl.fresh, rl.pre, rl.mz⟩
  · obtain ⟨v, q1, q2⟩ := rl1.val i d q
    exact ⟨v, q1, by rw [← hC]; exact q2.go g⟩
  · have hi : i ∉ ws := fun z => noOwn_get no z q
    obtain ⟨a, q1, q2, q3, q4⟩ := rl.own i d (by rw [wipeE_get, if_neg hi]; exact q)
    rw [wipe_get, if_neg hi] at q1
    exact ⟨a, q1, q2, q3, q4.go g' fun _ z => z⟩
  · obtain ⟨a, q1, q2⟩ := rl.hp n d q
    exact ⟨a, q1, q2.go g' fun _ z => z⟩
end

/-- a loop that makes something, one turn for each of what is walked -/
theorem loop_ex {α : Type} {At : List Addr → α → MH → Hp → Prop} {F : D → α → MH → R α} {ds : List D} {J : L2.It} {Fin : Hp → Prop} {Body : V → Hp → (Hp → Prop) → Prop} {acc acc' : α} {h h' : MH} {H : Hp} {ι : List Addr}
    (h0 : At ι acc h H) (eq : turns F ds acc h = .ok acc' h')
    (step : ∀ ι acc h H (i : Nat) d acc' h', At ι acc h H → ds[i]? = some d → F d acc h = .ok acc' h' → J.go i H ∧ ∀ Nx : Hp → Prop, (∀ ι' H', At ι' acc' h' H' → Nx H') → ∀ x H', J.yld i H x H' → Body x H' Nx)
    (stop : ∀ ι acc h H, At ι acc h H → J.stop ds.length H) (fin : ∀ ι H, At ι acc' h' H → Fin H) :
    ∃ W : Nat → Nat → Hp → Prop, (∃ m, W 0 m H) ∧ ∀ i m H, W i m H → (J.stop i H ∧ Fin H) ∨ (J.go i H ∧ ∃ Nx : Hp → Prop, (∀ H', Nx H' → ∃ m', m' < m ∧ W (i + 1) m' H') ∧ ∀ x H', J.yld i H x H' → Body x H' Nx) := by
  refine ⟨fun i m H => m = ds.length - i ∧ i ≤ ds.length ∧ ∃ ι acc h, At ι acc h H ∧ turns F (ds.drop i) acc h = .ok acc' h', ⟨_, rfl, Nat.zero_le _, ι, acc, h, h0, eq⟩, ?_⟩
  rintro i m H ⟨rfl, hi, ι, acc, h, at_, eq⟩
  by_cases hlt : i < ds.length
  · rw [List.drop_eq_getElem_cons hlt] at eq
    obtain ⟨acc2, h2, e1, e2⟩ := bind_ok (show (F ds[i] acc h).bind (fun acc h => turns F (ds.drop (i + 1)) acc h) = .ok acc' h' from eq)
    obtain ⟨go, bd⟩ := step ι acc h H i _ _ _ at_ (List.getElem?_eq_getElem hlt) e1
    refine .inr ⟨go, fun H' => ∃ ι', At ι' acc2 h2 H', fun H' ⟨ι', q⟩ => ⟨ds.length - (i + 1), by omega, rfl, hlt, ι', acc2, h2, q, e2⟩, fun x H' y => bd _ (fun ι' H' q => ⟨ι', q⟩) x H' y⟩
  · have e : i = ds.length := by omega
    subst e
    rw [List.drop_length] at eq
    cases eq
    exact .inl ⟨stop ι _ _ H at_, fin ι H at_⟩

def xE (tb : Tb) (Φ : Nat → List D → MH → R D) (C : RC) (m : M) : TE := fun σ H Q => ∃ S, S.C = C ∧ tE tb Φ S m σ H Q
def xC (tb : Tb) (Φ : Nat → List D → MH → R D) (C : RC) (cs : Ts) : TT := fun σ H Q => ∃ S, S.C = C ∧ tCs tb Φ S cs σ H Q
def xI (tb : Tb) (Φ : Nat → List D → MH → R D) (C : RC) (it : It) : TI := fun σ H R => ∃ S, S.C = C ∧ tI tb Φ S it σ H R
theorem PE.ex {X : Cx} {e : Expr} {t : SC → TE} {P : SC → Prop} (h : ∀ S, P S → PE X e (t S)) : PE X e (fun σ H Q => ∃ S, P S ∧ t S σ H Q) := ⟨fun pins s σ H Q I ⟨S, p, q⟩ => (h S p).run pins s σ H Q I q⟩
theorem PTs.ex {X : Cx} {e : List Expr} {t : SC → TT} {P : SC → Prop} (h : ∀ S, P S → PTs X e (t S)) : PTs X e (fun σ H Q => ∃ S, P S ∧ t S σ H Q) := ⟨fun pins s σ H Q I ⟨S, p, q⟩ => (h S p).run pins s σ H Q I q⟩
theorem PI.ex {X : Cx} {tg e : Expr} {t : SC → TI} {P : SC → Prop} (h : ∀ S, P S → PI X tg e (t S)) : PI X tg e (fun σ H Q => ∃ S, P S ∧ t S σ H Q) := ⟨fun pins s σ H Q I ⟨S, p, q⟩ => (h S p).run pins s σ H Q I q⟩

section
variable {tb : Tb} {Φ : Nat → List D → MH → R D} {x : Tx} {N : List Str} {j : Nat} {S : SC} {X : Cx} {sc : Scope}
/-- a block's scene: D the list in the making, e and σ those around the block -/
structure AtD (S : SC) (D : Addr) (e : Ev) (σ : L2.St) (ws : List Nat) (ι1 : List Addr) (H1 : Hp) (ι : List Addr) (acc : List MP.D) (h : MH) (H : Hp) : Prop where
  ex : ∃ vs, Rel (SD S D (.lst vs)) ι (wipeE e ws) h (L2.wipe σ ws) H ∧ Go ι1 (Mu (fun a => S.M0 a ∨ a = D) ι1 e σ) (upd H1 D (.lst [])) ι (Mu (fun a => S.M0 a ∨ a = D) ι e σ) H ∧
    Reps S.C ι (Mu (fun a => S.M0 a ∨ a = D) ι e σ) H vs acc ∧ H D = some (.lst vs)
/-- a turn: store, tests, element -/
def fTurn (tb : Tb) (Φ : Nat → List D → MH → R D) (elt : M) (p : Pat) (cs : Ts) (eW : Ev) : D → List D → MH → R (List D) := fun d acc h => (match bindP p d eW with
  | some e' => (evC tb Φ cs e' h).bind fun b h => if b then (ev tb Φ elt e' h).bind fun y h => (if acc.length < lim then .ok (acc ++ [y]) h else .no) else .ok acc h
  | none => .no)
theorem lc_read {ws : List Nat} {elt : M} {p : Pat} {it : It} {cs : Ts} {σ : L2.St} {H : Hp} {Q : VK} (q : tF tb Φ S (.lc ws elt p it cs) σ H Q) : tLc (tI tb Φ S it) (tG tb S.C p) (xC tb Φ S.C cs) (xE tb Φ S.C elt) ws σ H Q := by
  obtain ⟨ι, e, h, rl, d, h', eq, K⟩ := q
  obtain ⟨hc, eq⟩ := ite_ok eq
  obtain ⟨no, pin⟩ := and2 hc
  obtain ⟨ds, h1, e1, eq⟩ := bind_ok eq
  obtain ⟨acc, h2, e2, eq⟩ := bind_ok eq
  cases eq
  refine ⟨ι, e, h, rl, ds, h1, e1, fun ι1 H1 J g1 rl1 wk D hD => ?_⟩
  have g0 : Go ι1 (Mu S.M0 ι1 e σ) H1 ι1 (Mu (fun a => S.M0 a ∨ a = D) ι1 e σ) (upd H1 D (.lst [])) := SD.go0 hD
  have hDi : D ∉ ι1 := rl1.notin hD
  have hD0 : D ∉ S.i0 := rl1.noti0 hD
  have muW : ∀ ι, Mu (fun a => S.M0 a ∨ a = D) ι (wipeE e ws) (L2.wipe σ ws) = Mu (fun a => S.M0 a ∨ a = D) ι e σ := fun ι => funext fun a => propext (Mu.wipe no a)
  have mem : ∀ {ι : List Addr} {H : Hp}, Go ι1 (Mu (fun a => S.M0 a ∨ a = D) ι1 e σ) (upd H1 D (.lst [])) ι (Mu (fun a => S.M0 a ∨ a = D) ι e σ) H → D ∉ ι := fun {ι H} g z => by
    rcases g.nw D z with w | w
    · exact hDi w
    · rw [upd_same] at w; cases w
  refine loop_ex (At := AtD S D e σ ws ι1 H1) (F := fTurn tb Φ elt p cs (wipeE e ws)) (acc := []) (acc' := acc) (h := h1) (h' := _) (ds := ds) (Fin := fun H => Q (.ref D) H) ⟨[], ?_, .refl, .nil, upd_same⟩ e2 ?_ ?_ ?_
  · exact SD.start (rl1.wipe no) hD
  · rintro ι2 acc2 h3 H2 i d acc3 h4 ⟨vs, rl2, g2, rs, hv⟩ hd ef
    obtain ⟨w1, _⟩ := wk _ _ _ (g0.trans g2) i
    obtain ⟨go, yl⟩ := w1 d hd
    refine ⟨go, fun Nx hN y H3 hy => ?_⟩
    obtain ⟨sm, ry⟩ := yl y H3 hy
    have ef : (match bindP p d (wipeE e ws) with
      | some e' => (evC tb Φ cs e' h3).bind fun b h => if b then (ev tb Φ elt e' h).bind fun y h => (if acc2.length < lim then R.ok (acc2 ++ [y]) h else .no) else .ok acc2 h
      | none => .no) = R.ok acc3 h4 := ef
    cases hb : bindP p d (wipeE e ws) with
    | none => rw [hb] at ef; cases ef
    | some e' =>
      rw [hb] at ef
      obtain ⟨b, h5, e5, ef⟩ := bind_ok ef
      refine ⟨SD S D (.lst vs), ι2, wipeE e ws, h3, d, e', rfl, rl2.grow sm, ?_, hb, fun σ2 rl3 ow hw => ?_⟩
      · show Rep S.C ι2 (Mu (fun a => S.M0 a ∨ a = D) ι2 (wipeE e ws) (L2.wipe σ ws)) H3 y d
        rw [muW]; exact ry
      · obtain ⟨a1, a2, a3⟩ := hw ws pin
        rw [wipe_wipe] at a1
        rw [wipeE_wipe] at a2
        have no' := a3 noOwn_wipe
        have mu2 : ∀ ι, Mu (fun a => S.M0 a ∨ a = D) ι e' σ2 = Mu (fun a => S.M0 a ∨ a = D) ι e σ := fun ι => by
          rw [← muW ι, ← a1, ← a2]
          exact (funext fun a => propext (Mu.wipe no' a)).symm
        refine ⟨a1, SD S D (.lst vs), rfl, ι2, e', h3, rl3, b, h5, e5, fun ι4 H4 g4 rl4 => ?_⟩
        have g4' : Go ι2 (Mu (fun a => S.M0 a ∨ a = D) ι2 e σ) H3 ι4 (Mu (fun a => S.M0 a ∨ a = D) ι4 e σ) H4 := by
          have := g4
          rw [show (SD S D (.lst vs)).M0 = fun a => S.M0 a ∨ a = D from rfl, mu2, mu2] at this
          exact this
        have gs : Go ι2 (Mu (fun a => S.M0 a ∨ a = D) ι2 e σ) H2 ι2 (Mu (fun a => S.M0 a ∨ a = D) ι2 e σ) H3 := .same sm
        cases b with
        | false =>
          cases ef
          refine hN ι4 H4 ⟨vs, ?_, g2.trans (gs.trans g4'), rs.go (gs.trans g4'), rl4.kept D _ upd_same hD0⟩
          have := rl4.wipe no'
          rw [a1, a2] at this
          exact this
        | true =>
          obtain ⟨y2, h6, e6, ef⟩ := bind_ok ef
          obtain ⟨hl, ef⟩ := ite_ok ef
          cases ef
          refine ⟨SD S D (.lst vs), rfl, ι4, e', h5, rl4, y2, _, e6, fun ι5 H5 v g5 rl5 r5 => ⟨vs, rl5.kept D _ upd_same hD0, by rw [rs.length]; exact Nat.lt_of_lt_of_le hl (by decide), ?_⟩⟩
          have g5' : Go ι4 (Mu (fun a => S.M0 a ∨ a = D) ι4 e σ) H4 ι5 (Mu (fun a => S.M0 a ∨ a = D) ι5 e σ) H5 := by
            have := g5
            rw [show (SD S D (.lst vs)).M0 = fun a => S.M0 a ∨ a = D from rfl, mu2, mu2] at this
            exact this
          have r5' : Rep S.C ι5 (Mu (fun a => S.M0 a ∨ a = D) ι5 e σ) H5 v y2 := by
            have := r5
            rw [show (SD S D (.lst vs)).M0 = fun a => S.M0 a ∨ a = D from rfl, mu2] at this
            exact this
          have ga := g2.trans (gs.trans (g4'.trans g5'))
          have gw : Go ι5 (Mu (fun a => S.M0 a ∨ a = D) ι5 e σ) H5 ι5 (Mu (fun a => S.M0 a ∨ a = D) ι5 e σ) (upd H5 D (.lst (vs ++ [v]))) := Go.write (.inl (.inr rfl))
          refine hN ι5 _ ⟨vs ++ [v], ?_, ga.trans gw, ((rs.go (gs.trans (g4'.trans g5'))).snoc r5').go gw, upd_same⟩
          have := rl5.wipe no'
          rw [a1, a2] at this
          exact SD.write this (mem ga)
  · rintro ι2 acc2 h3 H2 ⟨vs, rl2, g2, rs, hv⟩
    exact (wk _ _ _ (g0.trans g2) ds.length).2 (Nat.le_refl _)
  · rintro ι2 H2 ⟨vs, rl2, g2, rs, hv⟩
    have gt : Go ι1 (Mu S.M0 ι1 e σ) H1 ι2 (Mu (SP1 S D).M0 ι2 e σ) H2 := g0.trans g2
    have rlw : Rel (SP1 S D) ι2 (wipeE e ws) _ (L2.wipe σ ws) H2 := SD.toP (rl1.wipe no) hD rl2
    exact K ι2 H2 D (g1.back hD) (mem g2) (g1.trans gt) (Rel.unwipe (S0 := S) rfl rl1 no rlw gt) (.lst hv rs)
theorem e_lcF {ws : List Nat} {elt : M} {p : Pat} {it : It} {cs : Ts} {ee tg iter : Expr} {ifs : List Expr} {scope : Scope} {own : List (Str × Nat)} {pos : Pos} (G : Gd tb Φ x N j S X) (hi : PI X tg iter (tI tb Φ S it)) (ok : BlkOk X.N X.env.scope scope own) (hw : own.map (·.2) = ws)
    (hg : ∀ (s : Shared) (H : Hp) (C : Addr) (cl : List (Str × Addr)) (fp : List Addr), PG (X.blk s H scope (compEnvC scope cl C X.env) fp) tg (tG tb S.C p)) (ht : ∀ (s : Shared) (H : Hp) (C : Addr) (cl : List (Str × Addr)) (fp : List Addr), PTs (X.blk s H scope (compEnvC scope cl C X.env) fp) ifs (xC tb Φ S.C cs))
    (he : ∀ (s : Shared) (H : Hp) (C : Addr) (cl : List (Str × Addr)) (fp : List Addr), PE (X.blk s H scope (compEnvC scope cl C X.env) fp) ee (xE tb Φ S.C elt)) (hp : plainA iter = true) : PE X (.ListComp ee [⟨tg, iter, ifs, 0⟩] scope pos) (tF tb Φ S (.lc ws elt p it cs)) := by
  refine PE.imp (pe_lc G.calm (by rw [G.nm]; exact G.nd) hi ok hg ht he (plain_fold hp X.env)) fun σ H Q q => ?_
  rw [hw]
  exact lc_read q
end
end MP

set_option maxRecDepth 100000
set_option maxHeartbeats 1000000
/-! MP17b: dict displays, dict comprehensions. -/
namespace MP
open PySem PySem.Spec PyProof.Rows L2

theorem putK_nd {kvs : List (Key × V)} (nd : (kvs.map (·.1)).Nodup) (k : Key) (v : V) : ((putK kvs k v).map (·.1)).Nodup := by
  unfold putK
  split
  · have e : (kvs.map fun kv => if kv.1 = k then (kv.1, v) else kv).map (·.1) = kvs.map (·.1) := by
      rw [List.map_map]
      refine List.map_congr_left fun p _ => ?_
      show (if p.1 = k then (p.1, v) else p).1 = p.1
      split <;> rfl
    rw [e]; exact nd
  · rename_i h
    rw [List.map_append, List.nodup_append]
    refine ⟨nd, by simp, fun a ha b hb => ?_⟩
    have hb' : b = k := by simpa using hb
    subst hb'
    obtain ⟨p, hp, rfl⟩ := List.mem_map.mp ha
    exact fun z => h (List.any_eq_true.mpr ⟨p, hp, decide_eq_true z⟩)
theorem RepKs.merge {C : RC} {ι : List Addr} {M : Addr → Prop} {H : Hp} : ∀ {ds : List (D × D)} {kvs acc : List (Key × V)} {ad : List (D × D)}, RepKs C ι M H acc ad → (acc.map (·.1)).Nodup → RepKs C ι M H kvs ds → RepKs C ι M H (mergeK acc kvs) (ds.foldl (fun a p => dput a p.1 p.2) ad)
  | _, _, _, _, ra, nd, .nil => ra
  | _, _, acc, ad, ra, nd, @RepKs.cons _ _ _ _ k v vs d ds h r => RepKs.merge (acc := putK acc k v) (ad := dput ad (kD k) d) (ra.put k h nd) (putK_nd nd _ _) r
section
variable {tb : Tb} {Φ : Nat → List D → MH → R D} {x : Tx} {N : List Str} {j : Nat} {S : SC} {X : Cx} {sc : Scope} {pos : Pos}
def kvTrs (tb : Tb) (Φ : Nat → List D → MH → R D) (C : RC) : Kvs → List (TE × TE)
  | .nil => []
  | .cons k v l => (xE tb Φ C k, xE tb Φ C v) :: kvTrs tb Φ C l
theorem evd_read : ∀ (l : Kvs) {S : SC} {e : Ev} {h h' : MH} {σ : L2.St} {H : Hp} {ι : List Addr} {acc : List (D × D)} {d : D} {Q : List (V × V) → Hp → Prop}, Rel S ι e h σ H → evd tb Φ l e acc h = .ok d h' →
    (∀ ι2 H2 kvs ds, Go ι (Mu S.M0 ι e σ) H ι2 (Mu S.M0 ι2 e σ) H2 → Rel S ι2 e h' σ H2 → RepKs S.C ι2 (Mu S.M0 ι2 e σ) H2 kvs ds → d = .dct (ds.foldl (fun a p => dput a p.1 p.2) acc) → kvs.length = l.len → Q (kvs.map fun kv => (kV kv.1, kv.2)) H2) → tPairs (kvTrs tb Φ S.C l) σ H Q
  | .nil, S, e, h, h', σ, H, ι, acc, d, Q, rl, eq, K => by cases eq; exact K ι H [] [] .refl rl .nil rfl rfl
  | .cons k v l, S, e, h, h', σ, H, ι, acc, d, Q, rl, eq, K => by
    obtain ⟨dx, h1, e1, eq⟩ := bind_ok eq
    obtain ⟨dy, h2, e2, eq⟩ := bind_ok eq
    obtain ⟨hk, eq⟩ := ite_ok eq
    refine ⟨S, rfl, ι, e, h, rl, dx, h1, e1, fun ι1 H1 v1 g1 rl1 r1 => ⟨S, rfl, ι1, e, h1, rl1, dy, h2, e2, fun ι2 H2 v2 g2 rl2 r2 => ?_⟩⟩
    obtain ⟨key, rfl, rfl⟩ := key_of_kk r1 (beq_iff_eq.mp hk)
    exact evd_read l rl2 eq fun ι3 H3 kvs ds g3 rl3 rk ed hl => K ι3 H3 ((key, v2) :: kvs) ((kD key, dy) :: ds) (g1.trans (g2.trans g3)) rl3 (.cons (r2.go g3) rk) ed (congrArg (· + 1) hl)
theorem mem_new {ι ι2 : List Addr} {M M2 : Addr → Prop} {H H2 : Hp} {p : Addr} {o : HO} (ni : p ∉ ι) (g : Go ι M (upd H p o) ι2 M2 H2) : p ∉ ι2 := fun z => by
  rcases g.nw p z with w | w
  · exact ni w
  · rw [upd_same] at w; cases w
theorem e_dctF {l : Kvs} {keys : List (Option Expr)} {values : List Expr} (hp : PPs X pos keys values (kvTrs tb Φ S.C l)) (hall : keys.all (·.isSome) = true) (hl : keys.length = values.length) (h0 : keys ≠ []) (h15 : keys.length ≤ 15) (hn : l.len = keys.length) : PE X (.Dict keys values pos) (tF tb Φ S (.dct l)) := by
  refine PE.imp (pe_disp hp hall hl h0 h15) fun σ H Q ⟨ι, e, h, rl, d, h', eq, K⟩ p hp => ?_
  have g0 : Go ι (Mu S.M0 ι e σ) H ι (Mu (SD S p (.dK [])).M0 ι e σ) (upd H p (.dK [])) := SD.go0 hp
  refine evd_read (S := SD S p (.dK [])) l (SD.start rl hp) eq fun ι2 H2 kvs ds g2 rl2 rk ed hlen => ?_
  have ni : p ∉ ι2 := mem_new (rl.notin hp) g2
  have gw : Go ι2 (Mu (SD S p (.dK [])).M0 ι2 e σ) H2 ι2 (Mu (SP1 S p).M0 ι2 e σ) (upd H2 p (.dK (mergeK [] kvs))) := Go.write (.inl (.inr rfl))
  refine ⟨rl2.kept p _ upd_same (rl.noti0 hp), kvs, rfl, by omega, ?_⟩
  rw [ed] at K
  exact K ι2 _ p hp ni (g0.trans (g2.trans gw)) (SD.toP rl hp (SD.write rl2 ni)) (.dctK upd_same ((RepKs.merge .nil List.nodup_nil rk).go gw))
theorem e_dct0F : PE X (.Dict [] [] pos) (tF tb Φ S (.dct .nil)) :=
  PE.imp pe_dnewK fun σ H Q ⟨ι, e, h, rl, d, h', eq, K⟩ p hp => by
    cases eq
    exact K ι _ p hp (rl.notin hp) (goNew hp) (rl.plusNew hp) (.dctK upd_same .nil)
/-- a block's scene: D the dict in the making -/
structure AtK (S : SC) (D : Addr) (e : Ev) (σ : L2.St) (ws : List Nat) (ι1 : List Addr) (H1 : Hp) (ι : List Addr) (acc : List (MP.D × MP.D)) (h : MH) (H : Hp) : Prop where
  ex : ∃ kvs, Rel (SD S D (.dK kvs)) ι (wipeE e ws) h (L2.wipe σ ws) H ∧ Go ι1 (Mu (fun a => S.M0 a ∨ a = D) ι1 e σ) (upd H1 D (.dK [])) ι (Mu (fun a => S.M0 a ∨ a = D) ι e σ) H ∧
    RepKs S.C ι (Mu (fun a => S.M0 a ∨ a = D) ι e σ) H kvs acc ∧ (kvs.map (·.1)).Nodup ∧ H D = some (.dK kvs)
def kTurn (tb : Tb) (Φ : Nat → List D → MH → R D) (k v : M) (p : Pat) (cs : Ts) (eW : Ev) : D → List (D × D) → MH → R (List (D × D)) := fun d acc h => (match bindP p d eW with
  | some e' => (evC tb Φ cs e' h).bind fun b h => if b then (ev tb Φ k e' h).bind fun x h => (ev tb Φ v e' h).bind fun y h => (if kk x == 0 && decide (acc.length < lim) then .ok (dput acc x y) h else .no) else .ok acc h
  | none => .no)
theorem dc_read {ws : List Nat} {k v : M} {p : Pat} {it : It} {cs : Ts} {σ : L2.St} {H : Hp} {Q : VK} (q : tF tb Φ S (.dc ws k v p it cs) σ H Q) : tDc (tI tb Φ S it) (tG tb S.C p) (xC tb Φ S.C cs) (xE tb Φ S.C k) (xE tb Φ S.C v) ws σ H Q := by
  obtain ⟨ι, e, h, rl, d, h', eq, K⟩ := q
  obtain ⟨hc, eq⟩ := ite_ok eq
  obtain ⟨no, pin⟩ := and2 hc
  obtain ⟨ds, h1, e1, eq⟩ := bind_ok eq
  obtain ⟨acc, h2, e2, eq⟩ := bind_ok eq
  cases eq
  refine ⟨ι, e, h, rl, ds, h1, e1, fun ι1 H1 J g1 rl1 wk D hD => ?_⟩
  have g0 : Go ι1 (Mu S.M0 ι1 e σ) H1 ι1 (Mu (fun a => S.M0 a ∨ a = D) ι1 e σ) (upd H1 D (.dK [])) := SD.go0 hD
  have hDi : D ∉ ι1 := rl1.notin hD
  have hD0 : D ∉ S.i0 := rl1.noti0 hD
  have muW : ∀ ι, Mu (fun a => S.M0 a ∨ a = D) ι (wipeE e ws) (L2.wipe σ ws) = Mu (fun a => S.M0 a ∨ a = D) ι e σ := fun ι => funext fun a => propext (Mu.wipe no a)
  refine loop_ex (At := AtK S D e σ ws ι1 H1) (F := kTurn tb Φ k v p cs (wipeE e ws)) (acc := []) (acc' := acc) (h := h1) (h' := _) (ds := ds) (Fin := fun H => Q (.ref D) H) ⟨[], ?_, .refl, .nil, List.nodup_nil, upd_same⟩ e2 ?_ ?_ ?_
  · exact SD.start (rl1.wipe no) hD
  · rintro ι2 acc2 h3 H2 i d acc3 h4 ⟨kvs, rl2, g2, rs, nd, hv⟩ hd ef
    obtain ⟨w1, _⟩ := wk _ _ _ (g0.trans g2) i
    obtain ⟨go, yl⟩ := w1 d hd
    refine ⟨go, fun Nx hN y H3 hy => ?_⟩
    obtain ⟨sm, ry⟩ := yl y H3 hy
    have ef : (match bindP p d (wipeE e ws) with
      | some e' => (evC tb Φ cs e' h3).bind fun b h => if b then (ev tb Φ k e' h).bind fun x h => (ev tb Φ v e' h).bind fun y h => (if kk x == 0 && decide (acc2.length < lim) then R.ok (dput acc2 x y) h else .no) else .ok acc2 h
      | none => .no) = R.ok acc3 h4 := ef
    cases hb : bindP p d (wipeE e ws) with
    | none => rw [hb] at ef; cases ef
    | some e' =>
      rw [hb] at ef
      obtain ⟨b, h5, e5, ef⟩ := bind_ok ef
      refine ⟨SD S D (.dK kvs), ι2, wipeE e ws, h3, d, e', rfl, rl2.grow sm, ?_, hb, fun σ2 rl3 ow hw => ?_⟩
      · show Rep S.C ι2 (Mu (fun a => S.M0 a ∨ a = D) ι2 (wipeE e ws) (L2.wipe σ ws)) H3 y d
        rw [muW]; exact ry
      · obtain ⟨a1, a2, a3⟩ := hw ws pin
        rw [wipe_wipe] at a1
        rw [wipeE_wipe] at a2
        have no' := a3 noOwn_wipe
        have mu2 : ∀ ι, Mu (fun a => S.M0 a ∨ a = D) ι e' σ2 = Mu (fun a => S.M0 a ∨ a = D) ι e σ := fun ι => by
          rw [← muW ι, ← a1, ← a2]
          exact (funext fun a => propext (Mu.wipe no' a)).symm
        have gm : ∀ {ι2 ι4 : List Addr} {H3 H4 : Hp}, Go ι2 (Mu (SD S D (.dK kvs)).M0 ι2 e' σ2) H3 ι4 (Mu (SD S D (.dK kvs)).M0 ι4 e' σ2) H4 → Go ι2 (Mu (fun a => S.M0 a ∨ a = D) ι2 e σ) H3 ι4 (Mu (fun a => S.M0 a ∨ a = D) ι4 e σ) H4 := fun g => by
          have := g
          rw [show (SD S D (.dK kvs)).M0 = fun a => S.M0 a ∨ a = D from rfl, mu2, mu2] at this
          exact this
        have back : ∀ {ι4 : List Addr} {h : MH} {H4 : Hp}, Rel (SD S D (.dK kvs)) ι4 e' h σ2 H4 → Rel (SD S D (.dK kvs)) ι4 (wipeE e ws) h (L2.wipe σ ws) H4 := fun r => by
          have := r.wipe no'
          rw [a1, a2] at this
          exact this
        refine ⟨a1, SD S D (.dK kvs), rfl, ι2, e', h3, rl3, b, h5, e5, fun ι4 H4 g4 rl4 => ?_⟩
        have gs : Go ι2 (Mu (fun a => S.M0 a ∨ a = D) ι2 e σ) H2 ι2 (Mu (fun a => S.M0 a ∨ a = D) ι2 e σ) H3 := .same sm
        cases b with
        | false =>
          cases ef
          exact hN ι4 H4 ⟨kvs, back rl4, g2.trans (gs.trans (gm g4)), rs.go (gs.trans (gm g4)), nd, rl4.kept D _ upd_same hD0⟩
        | true =>
          obtain ⟨dx, h6, e6, ef⟩ := bind_ok ef
          obtain ⟨dy, h7, e7, ef⟩ := bind_ok ef
          obtain ⟨hk, ef⟩ := ite_ok ef
          obtain ⟨hk, hl⟩ := and2 hk
          cases ef
          refine ⟨SD S D (.dK kvs), rfl, ι4, e', h5, rl4, dx, _, e6, fun ι5 H5 vk g5 rl5 r5 => ⟨SD S D (.dK kvs), rfl, ι5, e', h6, rl5, dy, _, e7, fun ι6 H6 vv g6 rl6 r6 => ?_⟩⟩
          obtain ⟨key, rfl, rfl⟩ := key_of_kk r5 (beq_iff_eq.mp hk)
          have r6' : Rep S.C ι6 (Mu (fun a => S.M0 a ∨ a = D) ι6 e σ) H6 vv dy := by
            have := r6
            rw [show (SD S D (.dK kvs)).M0 = fun a => S.M0 a ∨ a = D from rfl, mu2] at this
            exact this
          have ga := g2.trans (gs.trans ((gm g4).trans ((gm g5).trans (gm g6))))
          have gw : Go ι6 (Mu (fun a => S.M0 a ∨ a = D) ι6 e σ) H6 ι6 (Mu (fun a => S.M0 a ∨ a = D) ι6 e σ) (upd H6 D (.dK (putK kvs key vv))) := Go.write (.inl (.inr rfl))
          refine ⟨kvs, key, rfl, rl6.kept D _ upd_same hD0, by rw [rs.length]; exact Nat.lt_of_lt_of_le (of_decide_eq_true hl) (by decide), ?_⟩
          exact hN ι6 _ ⟨putK kvs key vv, SD.write (back rl6) (mem_new hDi ga), ga.trans gw, ((rs.go (gs.trans ((gm g4).trans ((gm g5).trans (gm g6))))).put key r6' nd).go gw, putK_nd nd _ _, upd_same⟩
  · rintro ι2 acc2 h3 H2 ⟨kvs, rl2, g2, rs, nd, hv⟩
    exact (wk _ _ _ (g0.trans g2) ds.length).2 (Nat.le_refl _)
  · rintro ι2 H2 ⟨kvs, rl2, g2, rs, nd, hv⟩
    have gt : Go ι1 (Mu S.M0 ι1 e σ) H1 ι2 (Mu (SP1 S D).M0 ι2 e σ) H2 := g0.trans g2
    have rlw : Rel (SP1 S D) ι2 (wipeE e ws) _ (L2.wipe σ ws) H2 := SD.toP (rl1.wipe no) hD rl2
    exact K ι2 H2 D (g1.back hD) (mem_new hDi g2) (g1.trans gt) (Rel.unwipe (S0 := S) rfl rl1 no rlw gt) (.dctK hv rs)
theorem e_dcF {ws : List Nat} {k v : M} {p : Pat} {it : It} {cs : Ts} {ke ve tg iter : Expr} {ifs : List Expr} {scope : Scope} {own : List (Str × Nat)} (G : Gd tb Φ x N j S X) (hi : PI X tg iter (tI tb Φ S it)) (ok : BlkOk X.N X.env.scope scope own) (hw : own.map (·.2) = ws)
    (hg : ∀ (s : Shared) (H : Hp) (C : Addr) (cl : List (Str × Addr)) (fp : List Addr), PG (X.blk s H scope (compEnvC scope cl C X.env) fp) tg (tG tb S.C p)) (ht : ∀ (s : Shared) (H : Hp) (C : Addr) (cl : List (Str × Addr)) (fp : List Addr), PTs (X.blk s H scope (compEnvC scope cl C X.env) fp) ifs (xC tb Φ S.C cs))
    (hk : ∀ (s : Shared) (H : Hp) (C : Addr) (cl : List (Str × Addr)) (fp : List Addr), PE (X.blk s H scope (compEnvC scope cl C X.env) fp) ke (xE tb Φ S.C k)) (hv : ∀ (s : Shared) (H : Hp) (C : Addr) (cl : List (Str × Addr)) (fp : List Addr), PE (X.blk s H scope (compEnvC scope cl C X.env) fp) ve (xE tb Φ S.C v)) (hp : plainA iter = true) : PE X (.DictComp ke ve [⟨tg, iter, ifs, 0⟩] scope pos) (tF tb Φ S (.dc ws k v p it cs)) := by
  refine PE.imp (pe_dc G.calm (by rw [G.nm]; exact G.nd) hi ok hg ht hk hv (plain_fold hp X.env)) fun σ H Q q => ?_
  rw [hw]
  exact dc_read q
end
end MP

set_option maxRecDepth 100000
set_option maxHeartbeats 1000000
/-! MP17c: what may change while it is walked; new shared objects. -/
namespace MP
open PySem PySem.Spec PyProof.Rows L2

/-! ### a new object is shared -/
section
variable {S : SC} {ι ι' : List Addr} {e : Ev} {h h' : MH} {σ : L2.St} {H H' : Hp} {p : Addr} {d : MP.D}
theorem Rel.share (rl0 : Rel S ι e h σ H) (hp : H p = none) (ni : p ∉ ι') (g : Go ι (Mu S.M0 ι e σ) H ι' (Mu (SP1 S p).M0 ι' e σ) H') (rl : Rel (SP1 S p) ι' e h' σ H') (c : ContAt S.C ι' (Mu (SP1 S p).M0 ι' e σ) H' p d) :
    Go ι (Mu S.M0 ι e σ) H (ι' ++ [p]) (Mu S.M0 (ι' ++ [p]) e σ) H' ∧ Rel S (ι' ++ [p]) e (h' ++ [d]) σ H' ∧ Rep S.C (ι' ++ [p]) (Mu S.M0 (ι' ++ [p]) e σ) H' (.ref p) (.ref h'.length) := by
  have mem : ∀ {b}, b ∈ ι' ++ [p] → b ∈ ι' ∨ b = p := fun z => by simpa using z
  have sub : ∀ b, Mu S.M0 (ι' ++ [p]) e σ b → Mu (SP1 S p).M0 ι' e σ b := fun b m => by
    rcases m with m | m | m
    · exact .inl (.inl m)
    · exact (mem m).elim (fun z => .inr (.inl z)) fun z => .inl (.inr z)
    · exact .inr (.inr m)
  have pre : ∀ (n : Nat) (a : Addr), ι'[n]? = some a → (ι' ++ [p])[n]? = some a := fun n a q => by
    have hl : n < ι'.length := by
      by_cases w : n < ι'.length
      · exact w
      · rw [List.getElem?_eq_none (by omega)] at q; cases q
    rw [List.getElem?_append_left hl]; exact q
  have hlast : (ι' ++ [p])[h'.length]? = some p := by
    rw [← rl.hl, List.getElem?_append_right (Nat.le_refl _), Nat.sub_self]; rfl
  refine ⟨⟨fun n a q => pre n a (g.pre n a q), g.kept, fun a o q m => g.new a o q (sub a m), fun a m => (mem m).elim (g.nw a) fun z => (by subst z; exact .inr hp), g.live⟩,
    ⟨rl.len, fun k d2 z => ?_, fun k d2 z => ?_, rl.dist, ?_, ?_, fun n d2 z => ?_, rl.kept, fun b m => ?_, fun n a q => pre n a (rl.pre n a q), fun b m => rl.mz b (.inl m)⟩, .ref hlast⟩
  · obtain ⟨v, h1, h2⟩ := rl.val k d2 z
    exact ⟨v, h1, h2.wide pre sub⟩
  · obtain ⟨b, h1, h2, h3, h4⟩ := rl.own k d2 z
    refine ⟨b, h1, h2, fun m => ?_, h4.wide pre sub⟩
    rcases mem m with m | m
    · exact h3 m
    · subst m; exact rl0.noOwnP hp k ⟨⟨d2, z⟩, h1⟩
  · rw [List.length_append, List.length_append, rl.hl]; rfl
  · rw [List.nodup_append]
    refine ⟨rl.hd, by simp, fun a ha b hb z => ?_⟩
    have : b = p := by simpa using hb
    subst this
    exact ni (z ▸ ha)
  · by_cases hlt : n < h'.length
    · rw [List.getElem?_append_left hlt] at z
      obtain ⟨b, h1, h2⟩ := rl.hp n d2 z
      exact ⟨b, pre n b h1, h2.wide pre sub⟩
    · by_cases hn : n = h'.length
      · subst hn
        rw [List.getElem?_append_right (Nat.le_refl _), Nat.sub_self] at z
        cases z
        exact ⟨p, hlast, c.wide pre sub⟩
      · rw [List.getElem?_eq_none (by rw [List.length_append]; show h'.length + 1 ≤ n; omega)] at z
        cases z
  · rcases mem m with m | m
    · exact rl.fresh b m
    · subst m; exact .inr (rl0.h0P hp)
end
section
variable {tb : Tb} {Φ : Nat → List D → MH → R D} {x : Tx} {N : List Str} {j : Nat} {S : SC} {X : Cx} {sc : Scope} {e ea : Expr} {a : M}
theorem e_sh (ha : PE X ea (tF tb Φ S a)) : PE X ea (tE tb Φ S (.sh a)) := PE.imp ha fun σ H Q ⟨ι, e, h, rl, d0, h0, eq, K⟩ => by
  obtain ⟨d, h1, e1, eq⟩ := bind_ok eq
  have eq : d0 = .ref h1.length ∧ h0 = h1 ++ [d] := by cases d <;> first | (cases eq; exact ⟨rfl, rfl⟩) | (cases eq; done)
  obtain ⟨rfl, rfl⟩ := eq
  refine ⟨ι, e, h, rl, d, h1, e1, fun ι' H' p hp ni g rl' c => ?_⟩
  obtain ⟨g2, rl2, rp⟩ := rl.share hp ni g rl' c
  exact K _ H' _ g2 rl2 rp
end

/-! ### what stands there now -/
def Jx (K : PySem.W.Frag) (x : D) (a : Addr) : L2.It := match x with
  | .tup _ => Itt K a
  | _ => Itl K a
structure Wk1 (C : RC) (J : L2.It) (l : List D) (ι : List Addr) (M : Addr → Prop) (H : Hp) : Prop where
  go : ∀ (i : Nat) (d : D), l[i]? = some d → J.go i H ∧ ∀ y H3, J.yld i H y H3 → Same H H3 ∧ Rep C ι M H3 y d
  stop : ∀ i : Nat, l.length ≤ i → J.stop i H
theorem wk1_l {C : RC} {ι : List Addr} {M : Addr → Prop} {H : Hp} {ad : Addr} {vs : List V} {ds : List D} (h : H ad = some (.lst vs)) (r : Reps C ι M H vs ds) : Wk1 C (Itl C.K ad) ds ι M H := by
  have hs : SqL C.K H ad vs := SqL.of h
  refine ⟨fun i d hd => ?_, fun i hi => ⟨vs, hs, by rw [r.length]; exact hi⟩⟩
  obtain ⟨v, h1, h2⟩ := r.get hd
  refine ⟨⟨vs, v, hs, h1⟩, fun y H3 ⟨e1, e2⟩ => ?_⟩
  subst e1
  have := e2 vs hs
  rw [h1] at this
  cases this
  exact ⟨Same.rfl', h2⟩
theorem wk1_t {C : RC} {ι : List Addr} {M : Addr → Prop} {H : Hp} {ad : Addr} {vs : List V} {ds : List D} (h : TupAt C M H ad vs) (r : Reps C ι M H vs ds) : Wk1 C (Itt C.K ad) ds ι M H := by
  have hs : SqT C.K H ad vs := h.sq
  refine ⟨fun i d hd => ?_, fun i hi => ⟨vs, hs, by rw [r.length]; exact hi⟩⟩
  obtain ⟨v, h1, h2⟩ := r.get hd
  refine ⟨⟨vs, v, hs, h1⟩, fun y H3 ⟨e1, e2⟩ => ?_⟩
  subst e1
  have := e2 vs hs
  rw [h1] at this
  cases this
  exact ⟨Same.rfl', h2⟩
section
variable {S : SC} {ι : List Addr} {e : Ev} {h : MH} {σ : L2.St} {H : Hp}
theorem now_at {v : V} {x : D} {l : List D} (rl : Rel S ι e h σ H) (r : Rep S.C ι (Mu S.M0 ι e σ) H v x) (q : (view x h).bind seqD = some l) :
    ∃ a, v = .ref a ∧ Wk1 S.C (Jx S.C.K x a) l ι (Mu S.M0 ι e σ) H ∧ ((Jx S.C.K x a = Itl S.C.K a ∧ ∃ xs, SqL S.C.K H a xs) ∨ (Jx S.C.K x a = Itt S.C.K a ∧ ∃ xs, SqT S.C.K H a xs)) := by
  cases r with
  | @tup a vs ds ht rs => cases q; exact ⟨a, rfl, wk1_t ht rs, .inr ⟨rfl, vs, ht.sq⟩⟩
  | @lst a vs ds m hh rs => cases q; exact ⟨a, rfl, wk1_l hh rs, .inl ⟨rfl, vs, SqL.of hh⟩⟩
  | @ref a n hn =>
    obtain ⟨c, hc, q⟩ := Option.bind_eq_some_iff.mp q
    obtain ⟨a', h1, h2⟩ := rl.hp n c hc
    rw [hn] at h1
    cases h1
    cases h2 with
    | @lst vs ds hh rs => cases q; exact ⟨a, rfl, wk1_l hh rs, .inl ⟨rfl, vs, SqL.of hh⟩⟩
    | _ => cases q
  | _ => cases q
end
theorem loop_exR {α : Type} {At : List Addr → α → MH → Hp → Prop} {get : MH → Option (List D)} {F : D → α → MH → R α} {J : L2.It} {Fin : Hp → Prop} {Body : V → Hp → (Hp → Prop) → Prop} {n : Nat} {acc acc' : α} {h h' : MH} {H : Hp} {ι : List Addr}
    (h0 : At ι acc h H) (eq : turnsR get F n 0 acc h = .ok acc' h')
    (step : ∀ ι acc h H l (i : Nat) d acc' h', At ι acc h H → get h = some l → l[i]? = some d → F d acc h = .ok acc' h' → J.go i H ∧ ∀ Nx : Hp → Prop, (∀ ι' H', At ι' acc' h' H' → Nx H') → ∀ x H', J.yld i H x H' → Body x H' Nx)
    (stop : ∀ ι acc h H l (i : Nat), At ι acc h H → get h = some l → l.length ≤ i → J.stop i H) (fin : ∀ ι H, At ι acc' h' H → Fin H) :
    ∃ W : Nat → Nat → Hp → Prop, (∃ m, W 0 m H) ∧ ∀ i m H, W i m H → (J.stop i H ∧ Fin H) ∨ (J.go i H ∧ ∃ Nx : Hp → Prop, (∀ H', Nx H' → ∃ m', m' < m ∧ W (i + 1) m' H') ∧ ∀ x H', J.yld i H x H' → Body x H' Nx) := by
  refine ⟨fun i m H => ∃ ι acc h, At ι acc h H ∧ turnsR get F m i acc h = .ok acc' h', ⟨n, ι, acc, h, h0, eq⟩, ?_⟩
  rintro i m H ⟨ι, acc, h, at_, eq⟩
  cases m with
  | zero =>
    have eq' : (match get h with
      | some l => if l.length ≤ i then R.ok acc h else .no
      | none => .no) = R.ok acc' h' := eq
    cases hg : get h with
    | none => rw [hg] at eq'; cases eq'
    | some l =>
      rw [hg] at eq'
      obtain ⟨hl, eq2⟩ := ite_ok' eq'
      cases eq2
      exact .inl ⟨stop ι _ _ H l i at_ hg hl, fin ι H at_⟩
  | succ m =>
    have eq' : (match get h with
      | some l => (match l[i]? with
        | some d => (F d acc h).bind fun acc h => turnsR get F m (i + 1) acc h
        | none => .ok acc h)
      | none => .no) = R.ok acc' h' := eq
    cases hg : get h with
    | none => rw [hg] at eq'; cases eq'
    | some l =>
      rw [hg] at eq'
      cases hd : l[i]? with
      | none =>
        have eq2 : (match l[i]? with
          | some d => (F d acc h).bind fun acc h => turnsR get F m (i + 1) acc h
          | none => .ok acc h) = R.ok acc' h' := eq'
        rw [hd] at eq2
        cases eq2
        exact .inl ⟨stop ι _ _ H l i at_ hg (List.getElem?_eq_none_iff.mp hd), fin ι H at_⟩
      | some d =>
        have eq2 : (match l[i]? with
          | some d => (F d acc h).bind fun acc h => turnsR get F m (i + 1) acc h
          | none => .ok acc h) = R.ok acc' h' := eq'
        rw [hd] at eq2
        obtain ⟨acc2, h2, e1, e2⟩ := bind_ok eq2
        obtain ⟨go, bd⟩ := step ι acc h H l i d _ _ at_ hg hd e1
        exact .inr ⟨go, fun H' => ∃ ι', At ι' acc2 h2 H', fun H' ⟨ι', q⟩ => ⟨m, Nat.lt_succ_self m, ι', acc2, h2, q, e2⟩, fun x H' y => bd _ (fun ι' H' q => ⟨ι', q⟩) x H' y⟩
section
variable {tb : Tb} {Φ : Nat → List D → MH → R D} {x : Tx} {N : List Str} {j : Nat} {S : SC} {X : Cx} {sc : Scope}
theorem lcR_read {ws : List Nat} {elt : M} {p : Pat} {m : M} {cs : Ts} {σ : L2.St} {H : Hp} {Q : VK} (q : tF tb Φ S (.lcR ws elt p m cs) σ H Q) : tLc (iSeq S.C.K (tE tb Φ S m)) (tG tb S.C p) (xC tb Φ S.C cs) (xE tb Φ S.C elt) ws σ H Q := by
  obtain ⟨ι, e, h, rl, d, h', eq, K⟩ := q
  obtain ⟨hc, eq⟩ := ite_ok eq
  obtain ⟨no, pin⟩ := and2 hc
  obtain ⟨xv, h1, e1, eq⟩ := bind_ok eq
  cases hv : (view xv h1).bind seqD with
  | none => rw [hv] at eq; cases eq
  | some ds =>
  rw [hv] at eq
  obtain ⟨acc, h2, e2, eq⟩ := bind_ok eq
  cases eq
  refine ⟨ι, e, h, rl, xv, h1, e1, fun ι1 H1 v1 g1 rl1 r1 => ?_⟩
  obtain ⟨a0, rfl, _, kd⟩ := now_at rl1 r1 hv
  have main : ∀ D, H1 D = none → _ := fun D hD => by
    have g0 : Go ι1 (Mu S.M0 ι1 e σ) H1 ι1 (Mu (fun a => S.M0 a ∨ a = D) ι1 e σ) (upd H1 D (.lst [])) := SD.go0 hD
    have hDi : D ∉ ι1 := rl1.notin hD
    have hD0 : D ∉ S.i0 := rl1.noti0 hD
    have muW : ∀ ι, Mu (fun a => S.M0 a ∨ a = D) ι (wipeE e ws) (L2.wipe σ ws) = Mu (fun a => S.M0 a ∨ a = D) ι e σ := fun ι => funext fun a => propext (Mu.wipe no a)
    have mem : ∀ {ι : List Addr} {H : Hp}, Go ι1 (Mu (fun a => S.M0 a ∨ a = D) ι1 e σ) (upd H1 D (.lst [])) ι (Mu (fun a => S.M0 a ∨ a = D) ι e σ) H → D ∉ ι := fun {ι H} g z => by
      rcases g.nw D z with w | w
      · exact hDi w
      · rw [upd_same] at w; cases w
    have now : ∀ {ι2 acc2 h3 H2 l}, AtD S D e σ ws ι1 H1 ι2 acc2 h3 H2 → (view xv h3).bind seqD = some l → Wk1 S.C (Jx S.C.K xv a0) l ι2 (Mu (fun a => S.M0 a ∨ a = D) ι2 e σ) H2 := fun {ι2 acc2 h3 H2 l} ⟨vs, rl2, g2, rs, hv2⟩ ql => by
      have rr := r1.go (g0.trans g2)
      have rr' : Rep (SD S D (.lst vs)).C ι2 (Mu (SD S D (.lst vs)).M0 ι2 (wipeE e ws) (L2.wipe σ ws)) H2 (.ref a0) xv := by
        show Rep S.C ι2 (Mu (fun a => S.M0 a ∨ a = D) ι2 (wipeE e ws) (L2.wipe σ ws)) H2 _ _
        rw [muW]; exact rr
      obtain ⟨a', ea, w, _⟩ := now_at rl2 rr' ql
      cases ea
      have w' : Wk1 S.C (Jx S.C.K xv a0) l ι2 (Mu (fun a => S.M0 a ∨ a = D) ι2 (wipeE e ws) (L2.wipe σ ws)) H2 := w
      rw [muW] at w'
      exact w'
    exact loop_exR (Body := fun y H3 Nx => tG tb S.C p y (L2.wipe σ ws) H3 fun σ2 H2 => L2.wipe σ2 ws = L2.wipe σ ws ∧ xC tb Φ S.C cs σ2 H2 fun b H3 =>
        if b = true then xE tb Φ S.C elt σ2 H3 fun y H4 => ∃ acc, H4 D = some (.lst acc) ∧ acc.length < sizeLine ∧ Nx (upd H4 D (.lst (acc ++ [y]))) else Nx H3)
      (At := AtD S D e σ ws ι1 H1) (F := fTurn tb Φ elt p cs (wipeE e ws)) (J := Jx S.C.K xv a0) (acc := []) (acc' := acc) (h := h1) (h' := _) (Fin := fun H => Q (.ref D) H) ⟨[], SD.start (rl1.wipe no) hD, .refl, .nil, upd_same⟩ e2
      (by
        rintro ι2 acc2 h3 H2 l i d acc3 h4 at2 ql hd ef
        obtain ⟨go, yl⟩ := (now at2 ql).go i d hd
        obtain ⟨vs, rl2, g2, rs, hv2⟩ := at2
        refine ⟨go, fun Nx hN y H3 hy => ?_⟩
        obtain ⟨sm, ry⟩ := yl y H3 hy
        have ef : (match bindP p d (wipeE e ws) with
          | some e' => (evC tb Φ cs e' h3).bind fun b h => if b then (ev tb Φ elt e' h).bind fun y h => (if acc2.length < lim then R.ok (acc2 ++ [y]) h else .no) else .ok acc2 h
          | none => .no) = R.ok acc3 h4 := ef
        cases hb : bindP p d (wipeE e ws) with
        | none => rw [hb] at ef; cases ef
        | some e' =>
          rw [hb] at ef
          obtain ⟨b, h5, e5, ef⟩ := bind_ok ef
          refine ⟨SD S D (.lst vs), ι2, wipeE e ws, h3, d, e', rfl, rl2.grow sm, ?_, hb, fun σ2 rl3 ow hw => ?_⟩
          · show Rep S.C ι2 (Mu (fun a => S.M0 a ∨ a = D) ι2 (wipeE e ws) (L2.wipe σ ws)) H3 y d
            rw [muW]; exact ry
          · obtain ⟨a1, a2, a3⟩ := hw ws pin
            rw [wipe_wipe] at a1
            rw [wipeE_wipe] at a2
            have no' := a3 noOwn_wipe
            have mu2 : ∀ ι, Mu (fun a => S.M0 a ∨ a = D) ι e' σ2 = Mu (fun a => S.M0 a ∨ a = D) ι e σ := fun ι => by
              rw [← muW ι, ← a1, ← a2]
              exact (funext fun a => propext (Mu.wipe no' a)).symm
            refine ⟨a1, SD S D (.lst vs), rfl, ι2, e', h3, rl3, b, h5, e5, fun ι4 H4 g4 rl4 => ?_⟩
            have g4' : Go ι2 (Mu (fun a => S.M0 a ∨ a = D) ι2 e σ) H3 ι4 (Mu (fun a => S.M0 a ∨ a = D) ι4 e σ) H4 := by
              have := g4
              rw [show (SD S D (.lst vs)).M0 = fun a => S.M0 a ∨ a = D from rfl, mu2, mu2] at this
              exact this
            have gs : Go ι2 (Mu (fun a => S.M0 a ∨ a = D) ι2 e σ) H2 ι2 (Mu (fun a => S.M0 a ∨ a = D) ι2 e σ) H3 := .same sm
            cases b with
            | false =>
              cases ef
              refine hN ι4 H4 ⟨vs, ?_, g2.trans (gs.trans g4'), rs.go (gs.trans g4'), rl4.kept D _ upd_same hD0⟩
              have := rl4.wipe no'
              rw [a1, a2] at this
              exact this
            | true =>
              obtain ⟨y2, h6, e6, ef⟩ := bind_ok ef
              obtain ⟨hl, ef⟩ := ite_ok ef
              cases ef
              refine ⟨SD S D (.lst vs), rfl, ι4, e', h5, rl4, y2, _, e6, fun ι5 H5 v g5 rl5 r5 => ⟨vs, rl5.kept D _ upd_same hD0, by rw [rs.length]; exact Nat.lt_of_lt_of_le hl (by decide), ?_⟩⟩
              have g5' : Go ι4 (Mu (fun a => S.M0 a ∨ a = D) ι4 e σ) H4 ι5 (Mu (fun a => S.M0 a ∨ a = D) ι5 e σ) H5 := by
                have := g5
                rw [show (SD S D (.lst vs)).M0 = fun a => S.M0 a ∨ a = D from rfl, mu2, mu2] at this
                exact this
              have r5' : Rep S.C ι5 (Mu (fun a => S.M0 a ∨ a = D) ι5 e σ) H5 v y2 := by
                have := r5
                rw [show (SD S D (.lst vs)).M0 = fun a => S.M0 a ∨ a = D from rfl, mu2] at this
                exact this
              have ga := g2.trans (gs.trans (g4'.trans g5'))
              have gw : Go ι5 (Mu (fun a => S.M0 a ∨ a = D) ι5 e σ) H5 ι5 (Mu (fun a => S.M0 a ∨ a = D) ι5 e σ) (upd H5 D (.lst (vs ++ [v]))) := Go.write (.inl (.inr rfl))
              refine hN ι5 _ ⟨vs ++ [v], ?_, ga.trans gw, ((rs.go (gs.trans (g4'.trans g5'))).snoc r5').go gw, upd_same⟩
              have := rl5.wipe no'
              rw [a1, a2] at this
              exact SD.write this (mem ga))
      (fun ι2 acc2 h3 H2 l i at2 ql hi => (now at2 ql).stop i hi)
      (by
        rintro ι2 H2 ⟨vs, rl2, g2, rs, hv2⟩
        have gt : Go ι1 (Mu S.M0 ι1 e σ) H1 ι2 (Mu (SP1 S D).M0 ι2 e σ) H2 := g0.trans g2
        have rlw : Rel (SP1 S D) ι2 (wipeE e ws) _ (L2.wipe σ ws) H2 := SD.toP (rl1.wipe no) hD rl2
        exact K ι2 H2 D (g1.back hD) (mem g2) (g1.trans gt) (Rel.unwipe (S0 := S) rfl rl1 no rlw gt) (.lst hv2 rs))
  rcases kd with ⟨ej, xs, hs⟩ | ⟨ej, xs, hs⟩
  · rw [ej] at main
    exact ⟨a0, rfl, .inl ⟨xs, hs, main⟩⟩
  · rw [ej] at main
    exact ⟨a0, rfl, .inr ⟨xs, hs, main⟩⟩
theorem e_lcRF {ws : List Nat} {elt : M} {p : Pat} {m : M} {cs : Ts} {ee tg iter : Expr} {ifs : List Expr} {scope : Scope} {own : List (Str × Nat)} {pos : Pos} (G : Gd tb Φ x N j S X) (hi : PE X iter (tE tb Φ S m)) (ok : BlkOk X.N X.env.scope scope own) (hw : own.map (·.2) = ws)
    (hg : ∀ (s : Shared) (H : Hp) (C : Addr) (cl : List (Str × Addr)) (fp : List Addr), PG (X.blk s H scope (compEnvC scope cl C X.env) fp) tg (tG tb S.C p)) (ht : ∀ (s : Shared) (H : Hp) (C : Addr) (cl : List (Str × Addr)) (fp : List Addr), PTs (X.blk s H scope (compEnvC scope cl C X.env) fp) ifs (xC tb Φ S.C cs))
    (he : ∀ (s : Shared) (H : Hp) (C : Addr) (cl : List (Str × Addr)) (fp : List Addr), PE (X.blk s H scope (compEnvC scope cl C X.env) fp) ee (xE tb Φ S.C elt)) (hp : plainA iter = true) : PE X (.ListComp ee [⟨tg, iter, ifs, 0⟩] scope pos) (tF tb Φ S (.lcR ws elt p m cs)) := by
  have hK : S.C.K = X.K := by rw [G.C]
  refine PE.imp (pe_lc G.calm (by rw [G.nm]; exact G.nd) (pi_seq hi) ok hg ht he (plain_fold hp X.env)) fun σ H Q q => ?_
  rw [hw, ← hK]
  exact lcR_read q
end
end MP

set_option maxRecDepth 100000
set_option maxHeartbeats 2000000
/-! MP17d: len({x for x in texts}). -/
namespace MP
open PySem PySem.Spec PyProof.Rows L2

/-- {x for x in it}: D the set in the making -/
def tSk (P : Program) (w : World) (wi : TI) (g : TG) (te : TE) (vs : List Nat) : TE := fun σ H Q => wi σ H fun J H1 => ∀ D, H1 D = none → ∃ W : Nat → Nat → Hp → Prop, (∃ m, W 0 m (upd H1 D (SetK P w D (fun _ => false) 0))) ∧ ∀ i m H, W i m H →
  (J.stop i H ∧ Q (.ref D) H) ∨ (J.go i H ∧ ∃ Nx : Hp → Prop, (∀ H', Nx H' → ∃ m', m' < m ∧ W (i + 1) m' H') ∧ ∀ x H', J.yld i H x H' → g x (L2.wipe σ vs) H' fun σ2 H2 => L2.wipe σ2 vs = L2.wipe σ vs ∧
    te σ2 H2 fun y H4 => ∃ (k : Key) (Sx : Key → Bool) (n : Nat), y = kV k ∧ H4 D = some (SetK P w D Sx n) ∧ n + 1 < scanBound ∧ Nx (upd H4 D (SetK P w D (fun j => Sx j || decide (j = k)) (if Sx k = true then n else n + 1))))
section
variable {X : Cx}
theorem sk_add {pins : List (Addr × Obj)} {σ : L2.St} {H : Hp} {s : Shared} {E : Value → Shared → Prop} {D : Addr} {Sx : Key → Bool} {n : Nat} {k : Key} {u : Value} {Q : Value → Shared → Prop} (I : Inv X pins σ H s) (hD : H D = some (SetK X.prog X.w D Sx n)) (ru : RelV (kV k) u) (room : n + 1 < scanBound)
    (h : ∀ s', Inv X pins σ (upd H D (SetK X.prog X.w D (fun j => Sx j || decide (j = k)) (if Sx k = true then n else n + 1))) s' → Q .none s') : wpAny (model X.prog X.w) X.A (call (.builtin "set.add") [.ref D, u]) Q E s :=
  call_set_add (kV_is ru) (key_scan ru) (setK_get I hD) room fun h' sb new => by
    have there : ∃ o, h'.get? D = some o := let ⟨o, _, _, _, ho, _⟩ := new; ⟨o, ho⟩
    exact h _ (I.write (e := D) (t' := s.toks + 1) (by rw [hD]; trivial) (.inl rfl) (fun b o hb ho => (sb.2 b hb).trans ho) there (setK_new new))
theorem pe_sk {elt tg iter : Expr} {scope : Scope} {own : List (Str × Nat)} {pos : Pos} {wi : TI} {g : TG} {te : TE} (hc : X.calm = true) (hN : X.N.Nodup) (hi : PI X tg iter wi) (ok : BlkOk X.N X.env.scope scope own)
    (hg : ∀ (s : Shared) (H : Hp) (C : Addr) (cl : List (Str × Addr)) (fp : List Addr), PG (X.blk s H scope (compEnvC scope cl C X.env) fp) tg g) (he : ∀ (s : Shared) (H : Hp) (C : Addr) (cl : List (Str × Addr)) (fp : List Addr), PE (X.blk s H scope (compEnvC scope cl C X.env) fp) elt te)
    (hs : ∀ x, foldedSetIterable iter X.env x = pure x) : PE X (.SetComp elt [⟨tg, iter, [], 0⟩] scope pos) (tSk X.prog X.w wi g te (own.map (·.2))) := by
  refine ⟨fun pins s0 σ0 H0 Q0 J0 rd => ?_⟩
  rw [PpSet.eval_SetComp]
  have cel : ∀ y ∈ scope.names, y.2 = .free → ∃ c, X.env.cells.lookup y.1 = some c := fun y hy e => (ok.free y hy e).elim (fun k => J0.ok.has _ (.inl k)) fun k => J0.ok.has _ (.inr k)
  refine wpAny_comprehension_free (use := none) rfl hs (closure_ok cel) ok.kind (fun y hy e => by rw [ok.uniq y hy, e]) (thn (hi.run pins s0 σ0 H0 _ J0 rd) fun _ z1 w1 => thn w1 fun _ z2 w2 => ?_)
  obtain ⟨it, fp, tn, J, G2, e, J2, T, st2, fo2, w2⟩ := w2
  subst e
  refine PpSet.newSet_ok (newEnv_comp ?_)
  obtain ⟨Dd, hDd⟩ : ∃ Dd, z2.heap.objs.size = Dd := ⟨_, rfl⟩
  rw [hDd]
  have fresh : G2 Dd = none := J2.hok.fresh (Nat.le_of_eq hDd)
  obtain ⟨W, ⟨m0, w0⟩, turn⟩ := w2 Dd fresh
  have keep2 : ∀ b o, z2.heap.get? b = some o → (z2.heap.push { cls := .type "set", dict := none, data := .set #[] 0 (.fresh 0 0 (!X.w.params.followText "set-order")) }).get? b = some o := fun b o e => Heap.get?_push_of_some _ e
  obtain ⟨z3, hz3⟩ : ∃ z3 : Shared, ({ z2 with heap := z2.heap.push { cls := .type "set", dict := none, data := .set #[] 0 (.fresh 0 0 (!X.w.params.followText "set-order")) } } : Shared) = z3 := ⟨_, rfl⟩
  have h3 : z3.heap = z2.heap.push { cls := .type "set", dict := none, data := .set #[] 0 (.fresh 0 0 (!X.w.params.followText "set-order")) } := by rw [← hz3]
  have nw : z3.heap.SetOf (mixKind X.prog X.w) Dd (fun _ => false) 0 := by
    rw [h3, ← hDd]
    exact ⟨_, #[], 0, _, Heap.get?_push_size _ rfl, ⟨rfl, rfl, rfl⟩, rfl, (fun e he => by simp at he), (fun k => by simp), (by decide), (by rfl), rfl⟩
  obtain ⟨G3, hG3⟩ : ∃ G3 : Hp, upd G2 Dd (SetK X.prog X.w Dd (fun _ => false) 0) = G3 := ⟨_, rfl⟩
  have J3 : Inv X pins σ0 G3 z3 := by
    rw [← hG3, ← hz3]
    exact J2.laid (t' := z2.toks) keep2 (Nat.le_of_eq hDd) (setK_new (by rw [← hz3] at nw; exact nw))
  have fo3 : ∀ b ∈ fp, FpOk X pins G3 b ∧ b < z3.heap.objs.size := fun b hb => by
    obtain ⟨o, e, _⟩ := T.obj _ _ st2 b hb
    have lt := Heap.lt_size e
    refine ⟨⟨?_, (fo2 b hb).2⟩, by rw [h3, Heap.size_push]; exact Nat.lt_succ_of_lt lt⟩
    rw [← hG3, upd_ne (hDd ▸ Nat.ne_of_lt lt)]
    exact (fo2 b hb).1
  have st3 : tn 0 z3.heap := T.keep _ _ _ st2 fun b _ o e => by rw [h3]; exact keep2 b o e
  have J4 := block_start J3 ok hN fo3
  obtain ⟨cl, hcl⟩ : ∃ cl, cellsFrom (z3.heap.objs.size + 1) scope.names (cloFrom X.env.cells scope.names []) = cl := ⟨_, rfl⟩
  have pg := hg z3 G3 z3.heap.objs.size cl fp
  have pe := he z3 G3 z3.heap.objs.size cl fp
  rw [hcl] at J4
  subst hz3
  rw [hcl]
  rw [hG3] at w0
  obtain ⟨ce, hce⟩ : ∃ ce, compEnvC scope cl (z2.heap.push { cls := .type "set", dict := none, data := .set #[] 0 (.fresh 0 0 (!X.w.params.followText "set-order")) }).objs.size X.env = ce := ⟨_, rfl⟩
  have cL : ce.locals = (z2.heap.push { cls := .type "set", dict := none, data := .set #[] 0 (.fresh 0 0 (!X.w.params.followText "set-order")) }).objs.size := by subst hce; rfl
  simp only [hce] at pg pe J4 ⊢
  obtain ⟨z4, hz4⟩ : ∃ z4 : Shared, ({ z2 with heap := pushCells ((z2.heap.push { cls := .type "set", dict := none, data := .set #[] 0 (.fresh 0 0 (!X.w.params.followText "set-order")) }).push { cls := .type "dict", data := .dict #[] }) scope.names } : Shared) = z4 := ⟨_, rfl⟩
  have J4 : Inv (X.blk { z2 with heap := z2.heap.push { cls := .type "set", dict := none, data := .set #[] 0 (.fresh 0 0 (!X.w.params.followText "set-order")) } } G3 scope ce fp) [] (L2.wipe σ0 (own.map (·.2))) G3 z4 := by rw [← hz4]; exact J4
  obtain ⟨z3, hz3⟩ : ∃ z3 : Shared, ({ z2 with heap := z2.heap.push { cls := .type "set", dict := none, data := .set #[] 0 (.fresh 0 0 (!X.w.params.followText "set-order")) } } : Shared) = z3 := ⟨_, rfl⟩
  have h3' : (z2.heap.push { cls := .type "set", dict := none, data := .set #[] 0 (.fresh 0 0 (!X.w.params.followText "set-order")) }) = z3.heap := by rw [← hz3]
  rw [hz3] at J4 pg pe J3 fo3
  rw [h3'] at cL
  have st4 : tn 0 z4.heap := T.keep _ _ _ st3 fun b _ o e => by rw [← hz4]; exact pushCells_keeps _ _ _ _ (Heap.get?_push_of_some _ e)
  have fpo : ∀ {τ : L2.St} {G : Hp} {z : Shared}, Inv (X.blk z3 G3 scope ce fp) [] τ G z → (∀ b ∈ fp, G b = none) → ∀ b ∈ fp, FpOk (X.blk z3 G3 scope ce fp) [] G b := fun {τ G z} K hn b hb =>
    ⟨hn b hb, (K.ok.exf b hb).1, K.ok.exfs b hb, .inl hb, (K.ok.exf b hb).2, fun p hp => by cases hp⟩
  suffices loop : codeAny (model X.prog X.w) X.A (.compLoop (.SetComp elt [⟨tg, iter, [], 0⟩] scope pos) 0 (.ref it) (.ref Dd) ce) (compPost (model X.prog X.w) X.A X.xe none (EP X pins σ0 Q0) (.ref Dd) z3.heap.objs.size) z4 by
    have gl := PpSet.codeAny_compStart_set loop (T.self X.A 0 _ _ _ st4 loop)
    rw [← h3', ← hz4, ← hce] at gl
    exact gl
  refine PpSet.compLoopS_any (fun n z => ∃ i G, Inv (X.blk z3 G3 scope ce fp) [] (L2.wipe σ0 (own.map (·.2))) G z ∧ tn i z.heap ∧ (∀ b ∈ fp, G b = none) ∧ W i n G) ?_ m0 ⟨0, G3, J4, st4, fun b hb => (fo3 b hb).1.1, w0⟩
  rintro n z5 ⟨i, G5, J5, st5, n5, w5⟩
  rcases turn i n G5 w5 with ⟨stop, qq⟩ | ⟨go, Nx, hNx, step⟩
  · refine thnF (T.done (X.blk z3 G3 scope ce fp) rfl rfl rfl hc i [] z5 _ G5 (fun _ _ => False) J5 (fpo J5 n5) st5 stop) fun r z6 ⟨hr, J6⟩ => ?_
    subst hr
    have J7 : Inv X pins σ0 G5 z6 := J3.call' (ch := fp) J6.os J6.base J6.hok J6.bare fun b hb => let f := (fo3 b hb).1.2; ⟨f.2.2.1, f.1, f.2.2.2.1, f.2.2.2.2⟩
    have nC : G5 z3.heap.objs.size = none := by rw [← cL]; exact J6.free
    obtain ⟨mm, hn, _⟩ := J6.loc
    have hn : z6.heap.Ns ce.locals mm := hn
    rw [cL] at hn
    obtain ⟨f0, f1, f2, f3, f4, f5⟩ := J3.fpOk (Nat.le_refl _) nC
    exact ⟨mm, hn, fun h'' sb => ⟨.ref Dd, G5, J7.turned (t' := z6.toks) (fun b o hb e => (sb.2 b hb).trans e) f0 f1 f3 f4 f5, rfl, qq⟩⟩
  · refine thnF (T.item (X.blk z3 G3 scope ce fp) rfl rfl rfl hc i [] z5 _ G5 (fun _ _ => False) J5 (fpo J5 n5) st5 go) fun r z6 ⟨u, hr, w6⟩ => ?_
    subst hr
    refine thnF w6 fun _ z7 ⟨xv, G7, J7, r7, y7, st7, n7⟩ => ?_
    have J7p := J7.pinned (fpo J7 n7) (T.obj _ _ st7)
    refine thnF (pg.run _ z7 _ G7 xv u _ J7p r7 (step xv G7 y7)) fun _ z8 ⟨σ8, G8, J8, hw8, q8⟩ => ?_
    rw [List.forIn_nil]
    refine wpAny_pure ?_
    rw [if_pos rfl]
    refine thnF (pe.run _ z8 σ8 G8 _ J8 q8) fun zv z10 ⟨yv, G10, J10, r10, k, Sx, n0, ey, hD10, room, nx⟩ => ?_
    subst ey
    refine sk_add (X := X.blk z3 G3 scope ce fp) J10 hD10 r10 room fun z11 J11 => ?_
    obtain ⟨m', hm, w'⟩ := hNx _ nx
    have pin : ∀ b ∈ fp, ∀ o, z7.heap.get? b = some o → z11.heap.get? b = some o ∧ _ := fun b hb o e => J11.pin (b, o) (List.mem_append_right _ (List.mem_append_right _ (mem_pinsAt hb e)))
    refine ⟨m', hm, i + 1, _, (J11.unpinned (pins := [])).weak (by rw [← hw8, wipe_length]) (fun l v e => ?_), T.keep _ _ _ st7 fun b hb o e => (pin b hb o e).1, fun b hb => ?_, w'⟩
    · rw [← hw8] at e; exact (wipe_some e).1
    · obtain ⟨o, e, _⟩ := T.obj _ _ st7 b hb
      exact (pin b hb o e).2.1
end

theorem call_lenK {X : Cx} : CallR X (.builtin "len") (fun xs H Q => ∃ p Sx n, xs = [.ref p] ∧ H p = some (SetK X.prog X.w p Sx n) ∧ Q (.int (n : Nat)) H) := by
  intro pins s σ H xs us Q I r ⟨p, Sx, n, ex, hq, q⟩
  subst ex
  obtain ⟨u, rfl, rx⟩ := vals1 r
  cases rx
  obtain ⟨o, es, ep, t, ho, hx, hd, _, _, hb, hf, hn⟩ := setK_get I hq
  refine call_len_set ho hx hd hf (by have : scanBound < 2 ^ 62 := by decide
                                      omega) ?_
  rw [hn]
  exact ⟨.int n, H, I.tok (s.toks + 1 + 1), ⟨_, rfl⟩, q⟩
theorem loop_exI {At : Nat → List Addr → Hp → Prop} {n : Nat} {J : L2.It} {Fin : Hp → Prop} {Body : V → Hp → (Hp → Prop) → Prop} {H : Hp} {ι : List Addr} (h0 : At 0 ι H)
    (step : ∀ i ι H, i < n → At i ι H → J.go i H ∧ ∀ Nx : Hp → Prop, (∀ ι' H', At (i + 1) ι' H' → Nx H') → ∀ x H', J.yld i H x H' → Body x H' Nx) (stop : ∀ ι H, At n ι H → J.stop n H) (fin : ∀ ι H, At n ι H → Fin H) :
    ∃ W : Nat → Nat → Hp → Prop, (∃ m, W 0 m H) ∧ ∀ i m H, W i m H → (J.stop i H ∧ Fin H) ∨ (J.go i H ∧ ∃ Nx : Hp → Prop, (∀ H', Nx H' → ∃ m', m' < m ∧ W (i + 1) m' H') ∧ ∀ x H', J.yld i H x H' → Body x H' Nx) := by
  refine ⟨fun i m H => m = n - i ∧ i ≤ n ∧ ∃ ι, At i ι H, ⟨_, rfl, Nat.zero_le _, ι, h0⟩, ?_⟩
  rintro i m H ⟨rfl, hi, ι, at_⟩
  by_cases hlt : i < n
  · obtain ⟨go, bd⟩ := step i ι H hlt at_
    exact .inr ⟨go, fun H' => ∃ ι', At (i + 1) ι' H', fun H' q => ⟨n - (i + 1), by omega, rfl, hlt, q⟩, fun x H' y => bd _ (fun ι' H' q => ⟨ι', q⟩) x H' y⟩
  · have e : i = n := by omega
    subst e
    exact .inl ⟨stop ι H at_, fin ι H at_⟩
theorem distS_same : ∀ (l : List D) {s s' : List D}, (∀ z, (s.any fun u => eqD u z) = s'.any fun u => eqD u z) → distS s l = distS s' l
  | [], _, _, _ => rfl
  | d :: l, s, s', h => by
    unfold distS
    rw [h d, distS_same l h, distS_same l (s := d :: s) (s' := d :: s') fun z => by rw [List.any_cons, List.any_cons, h z]]
section
variable {tb : Tb} {Φ : Nat → List D → MH → R D} {x : Tx} {N : List Str} {j : Nat} {S : SC} {X : Cx} {sc : Scope}
structure AtSk (P : Program) (w : World) (S : SC) (D : Addr) (e : Ev) (σ : L2.St) (ws : List Nat) (ι1 : List Addr) (H1 : Hp) (h1 : MH) (l : List MP.D) (i : Nat) (ι : List Addr) (H : Hp) : Prop where
  ex : ∃ Sx n, Rel (SD S D (SetK P w D Sx n)) ι (wipeE e ws) h1 (L2.wipe σ ws) H ∧ Go ι1 (Mu (fun a => S.M0 a ∨ a = D) ι1 e σ) (upd H1 D (SetK P w D (fun _ => false) 0)) ι (Mu (fun a => S.M0 a ∨ a = D) ι e σ) H ∧
    H D = some (SetK P w D Sx n) ∧ (∀ z : Str, Sx (.inr z) = (l.take i).any fun u => eqD u (.str z)) ∧ n + distS (l.take i) (l.drop i) = distS [] l ∧ n ≤ i
theorem slen_read {ws : List Nat} {i0 : Nat} {m : M} {σ : L2.St} {H : Hp} {Q : VK} {P : Program} {w : World} (q : tE tb Φ S (.slen ws i0 m) σ H Q) : tSk P w (tI tb Φ S (.val m)) (tG tb S.C (.nm i0)) (xE tb Φ S.C (.var i0)) ws σ H (fun v H' => ∃ p Sx n, [v] = [V.ref p] ∧ H' p = some (SetK P w p Sx n) ∧ Q (.int (n : Nat)) H') := by
  obtain ⟨ι, e, h, rl, d, h', eq, K⟩ := q
  obtain ⟨hc, eq⟩ := ite_ok eq
  obtain ⟨no, pin, hlt⟩ := and3 hc
  have hlt := of_decide_eq_true hlt
  obtain ⟨xo, h1, e1, eq⟩ := bind_ok eq
  have eq : ∃ l, vi e xo = some (.lst l) ∧ l.all isStrD = true ∧ l.length < 60 ∧ d = .int (distS [] l) ∧ h' = h1 := by
    split at eq
    · rename_i l hl
      obtain ⟨hc, eq⟩ := ite_ok eq
      cases eq
      obtain ⟨c1, c2⟩ := and2 hc
      exact ⟨l, hl, c1, of_decide_eq_true c2, rfl, rfl⟩
    · cases eq
  obtain ⟨l, hl, hstr, h60, rfl, rfl⟩ := eq
  refine ⟨ι, e, h, rl, l, h', ?_, fun ι1 H1 J g1 rl1 wk D hD => ?_⟩
  · show (opd m (ev tb Φ m e h) e h).bind (fun x h => R.of ((vi e x).bind itemsD) h) = R.ok l h'
    rw [e1]
    show R.of ((vi e xo).bind itemsD) h' = R.ok l h'
    rw [hl]; rfl
  have g0 : Go ι1 (Mu S.M0 ι1 e σ) H1 ι1 (Mu (fun a => S.M0 a ∨ a = D) ι1 e σ) (upd H1 D (SetK P w D (fun _ => false) 0)) := SD.go0 hD
  have hDi : D ∉ ι1 := rl1.notin hD
  have hD0 : D ∉ S.i0 := rl1.noti0 hD
  have muW : ∀ ι, Mu (fun a => S.M0 a ∨ a = D) ι (wipeE e ws) (L2.wipe σ ws) = Mu (fun a => S.M0 a ∨ a = D) ι e σ := fun ι => funext fun a => propext (Mu.wipe no a)
  have mem : ∀ {ι : List Addr} {H : Hp}, Go ι1 (Mu (fun a => S.M0 a ∨ a = D) ι1 e σ) (upd H1 D (SetK P w D (fun _ => false) 0)) ι (Mu (fun a => S.M0 a ∨ a = D) ι e σ) H → D ∉ ι := fun {ι H} g z => by
    rcases g.nw D z with w | w
    · exact hDi w
    · rw [upd_same] at w; cases w
  refine loop_exI (At := AtSk P w S D e σ ws ι1 H1 h' l) (n := l.length) (ι := ι1) ⟨_, 0, SD.start (rl1.wipe no) hD, .refl, upd_same, fun z => rfl, by simp, Nat.le_refl _⟩ ?_ ?_ ?_
  · rintro i ι2 H2 hi ⟨Sx, n, rl2, g2, hv, hs, hn, hle⟩
    have hd := List.getElem?_eq_getElem hi
    obtain ⟨w1, _⟩ := wk _ _ _ (g0.trans g2) i
    obtain ⟨go, yl⟩ := w1 _ hd
    refine ⟨go, fun Nx hN y H3 hy => ?_⟩
    obtain ⟨sm, ry⟩ := yl y H3 hy
    have hds : ∃ z, l[i] = .str z := by
      have := List.all_eq_true.mp hstr _ (List.getElem_mem hi)
      cases q : l[i] <;> rw [q] at this <;> first | (cases this; done) | exact ⟨_, rfl⟩
    obtain ⟨z, hz⟩ := hds
    rw [hz] at ry
    cases ry
    obtain ⟨e', he'⟩ : ∃ e', (wipeE e ws).set i0 (.val (.str z)) = e' := ⟨_, rfl⟩
    refine ⟨SD S D (SetK P w D Sx n), ι2, wipeE e ws, h', .str z, e', rfl, rl2.grow sm, .str z, congrArg some he', fun σ2 rl3 ow hw => ?_⟩
    obtain ⟨a1, a2, a3⟩ := hw ws (by simpa [patIn] using pin)
    rw [wipe_wipe] at a1
    rw [wipeE_wipe] at a2
    have no' := a3 noOwn_wipe
    have mu2 : ∀ ι, Mu (fun a => S.M0 a ∨ a = D) ι e' σ2 = Mu (fun a => S.M0 a ∨ a = D) ι e σ := fun ι => by
      rw [← muW ι, ← a1, ← a2]
      exact (funext fun a => propext (Mu.wipe no' a)).symm
    have hev : ev tb Φ (.var i0) e' h' = .ok (.str z) h' := by
      show (match e'[i0]? with
        | some (.val d) => R.ok d h'
        | _ => R.no) = _
      rw [← he', List.getElem?_set_self (by rw [wipeE_len]; exact hlt)]
    refine ⟨a1, SD S D (SetK P w D Sx n), rfl, ι2, _, h', rl3, .str z, h', hev, fun ι4 H4 v g4 rl4 r4 => ?_⟩
    have g4' : Go ι2 (Mu (fun a => S.M0 a ∨ a = D) ι2 e σ) H3 ι4 (Mu (fun a => S.M0 a ∨ a = D) ι4 e σ) H4 := by
      have := g4
      rw [show (SD S D (SetK P w D Sx n)).M0 = fun a => S.M0 a ∨ a = D from rfl, mu2, mu2] at this
      exact this
    cases r4
    have ga := g2.trans ((Go.same sm).trans g4')
    have gw : Go ι4 (Mu (fun a => S.M0 a ∨ a = D) ι4 e σ) H4 ι4 (Mu (fun a => S.M0 a ∨ a = D) ι4 e σ) (upd H4 D (SetK P w D (fun j => Sx j || decide (j = .inr z)) (if Sx (.inr z) = true then n else n + 1))) := Go.write (.inl (.inr rfl))
    refine ⟨.inr z, Sx, n, rfl, rl4.kept D _ upd_same hD0, by have : 60 < scanBound := by decide
                                                              omega, hN ι4 _ ⟨_, _, ?_, ga.trans gw, upd_same, fun z' => ?_, ?_, ?_⟩⟩
    · have := rl4.wipe no'
      rw [a1, a2] at this
      exact SD.write this (mem ga)
    · rw [List.take_add_one, hd, hz, List.any_append, hs z']
      congr 1
      show decide ((Sum.inr z' : Key) = .inr z) = (eqD (.str z) (.str z') || false)
      rw [Bool.or_false]
      show _ = decide (z = z')
      by_cases q : z' = z
      · subst q; simp
      · rw [decide_eq_false (fun y => q (Sum.inr.inj y)), decide_eq_false fun y => q y.symm]
    · have e3 : l.drop i = .str z :: l.drop (i + 1) := by rw [List.drop_eq_getElem_cons hi, hz]
      have e5 : distS (l.take i) (.str z :: l.drop (i + 1)) = if (l.take i).any (fun u => eqD u (.str z)) then distS (l.take i) (l.drop (i + 1)) else distS (.str z :: l.take i) (l.drop (i + 1)) + 1 := rfl
      rw [e3, e5, ← hs z] at hn
      have e4 : distS (l.take (i + 1)) (l.drop (i + 1)) = distS (if Sx (.inr z) = true then l.take i else .str z :: l.take i) (l.drop (i + 1)) := distS_same _ fun u => by
        rw [List.take_add_one, hd, hz, List.any_append]
        by_cases q : Sx (.inr z) = true
        · rw [if_pos q]
          show ((l.take i).any _ || (eqD (.str z) u || false)) = _
          rw [Bool.or_false]
          cases hu : eqD (.str z) u with
          | false => rw [Bool.or_false]
          | true =>
            rw [Bool.or_true]
            have hu' : u = .str z := by
              cases u <;> first | (cases hu; done) | skip
              rename_i z2
              have hu2 : decide (z = z2) = true := hu
              rw [of_decide_eq_true hu2]
            rw [hu', ← hs z, q]
        · rw [if_neg q, List.any_cons]
          show ((l.take i).any _ || (eqD (.str z) u || false)) = _
          rw [Bool.or_false, Bool.or_comm]
      rw [e4]
      by_cases q : Sx (.inr z) = true
      · rw [if_pos q, if_pos q]; rw [if_pos q] at hn; exact hn
      · rw [if_neg q, if_neg q]; rw [if_neg q] at hn; omega
    · split <;> omega
  · rintro ι2 H2 ⟨Sx, n, rl2, g2, hv, hs, hn, hle⟩
    exact (wk _ _ _ (g0.trans g2) l.length).2 (Nat.le_refl _)
  · rintro ι2 H2 ⟨Sx, n, rl2, g2, hv, hs, hn, hle⟩
    have gl : Go ι2 (Mu (fun a => S.M0 a ∨ a = D) ι2 e σ) H2 ι2 (Mu S.M0 ι2 e σ) H2 := .less fun a m => (SD.mu (S := S) (o := .lst [])).mpr (.inl m)
    have gt : Go ι1 (Mu S.M0 ι1 e σ) H1 ι2 (Mu S.M0 ι2 e σ) H2 := (g0.trans g2).trans gl
    have rlw : Rel S ι2 (wipeE e ws) _ (L2.wipe σ ws) H2 := SD.done (rl1.wipe no) hD rl2
    refine ⟨D, Sx, n, rfl, hv, K ι2 H2 _ (g1.trans gt) (Rel.unwipe (S0 := S) rfl rl1 no rlw gt) ?_⟩
    rw [List.drop_length] at hn
    have : n = distS [] l := hn
    rw [this]
    exact .int _
end
end MP

set_option maxRecDepth 100000
set_option maxHeartbeats 2000000
/-! MP17e: sorted(xs, key=str). -/
namespace MP
open PySem PySem.Spec PyProof.Rows L2 SrtO

/-! ### the one stable order -/
section
variable {α β : Type} {lt : α → α → Bool}
theorem insB_perm (x : α) : ∀ l : List α, (insB lt x l).Perm (x :: l)
  | [] => List.Perm.refl _
  | y :: r => by
    unfold insB
    split
    · exact ((insB_perm x r).cons y).trans (List.Perm.swap x y r)
    · exact List.Perm.refl _
theorem isortB_perm : ∀ l : List α, (isortB lt l).Perm l
  | [] => List.Perm.refl _
  | x :: r => (insB_perm x _).trans ((isortB_perm r).cons x)
theorem insB_srtd (O : Swo lt) (x : α) : ∀ l : List α, Srtd lt l → Srtd lt (insB lt x l)
  | [], _ => List.pairwise_singleton _ _
  | y :: r, h => by
    unfold insB
    obtain ⟨h1, h2⟩ := List.pairwise_cons.mp h
    split
    · rename_i hlt
      refine List.pairwise_cons.mpr ⟨fun z hz => ?_, insB_srtd O x r h2⟩
      rcases List.mem_cons.mp ((insB_perm x r).mem_iff.mp hz) with e | hz
      · rw [e]; exact O.asym _ _ hlt
      · exact h1 z hz
    · rename_i hlt
      have hyx : lt y x = false := by
        cases q : lt y x with
        | false => rfl
        | true => exact absurd q hlt
      refine List.pairwise_cons.mpr ⟨fun z hz => ?_, h⟩
      rcases List.mem_cons.mp hz with e | hz
      · rw [e]; exact hyx
      · exact O.tr x y z hyx (h1 z hz)
theorem isortB_srtd (O : Swo lt) : ∀ l : List α, Srtd lt (isortB lt l)
  | [] => List.Pairwise.nil
  | x :: r => insB_srtd O x _ (isortB_srtd O r)
theorem insB_cls (O : Swo lt) (x u : α) : ∀ l : List α, Srtd lt l → (insB lt x l).filter (eqv lt u) = (x :: l).filter (eqv lt u)
  | [], _ => rfl
  | y :: r, h => by
    unfold insB
    split
    · rename_i hlt
      rw [List.filter_cons, insB_cls O x u r (List.pairwise_cons.mp h).2]
      rw [List.filter_cons (x := x), List.filter_cons (x := x), List.filter_cons (x := y)]
      by_cases hx : eqv lt u x = true
      · have hy : eqv lt u y = false := by
          cases q : eqv lt u y with
          | false => rfl
          | true =>
            obtain ⟨a1, a2⟩ := eqv_iff.mp hx
            obtain ⟨b1, b2⟩ := eqv_iff.mp q
            have h3 : lt y x = false := by
              have := O.tr x u y a1 b2
              exact this
            rw [h3] at hlt; cases hlt
        rw [hy]; simp [hx]
      · rw [Bool.not_eq_true] at hx
        simp [hx]
    · rfl
theorem isortB_stb (O : Swo lt) : ∀ l : List α, Stb lt (isortB lt l) l
  | [] => Stb.refl _
  | x :: r => ⟨isortB_perm _, fun u => by
    show (insB lt x (isortB lt r)).filter _ = _
    rw [insB_cls O x u _ (isortB_srtd O r), List.filter_cons, List.filter_cons, (isortB_stb O r).cls u]⟩
theorem isortB_uniq (O : Swo lt) {l m : List α} (h1 : Srtd lt m) (h2 : Stb lt m l) : m = isortB lt l :=
  stb_uniq O h1 (isortB_srtd O l) (h2.trans ⟨(isortB_stb O l).perm.symm, fun x => ((isortB_stb O l).cls x).symm⟩)
end
/-- over related rows -/
inductive RelL {α β : Type} (R : α → β → Prop) : List α → List β → Prop
  | nil : RelL R [] []
  | cons {a : α} {b : β} {l : List α} {m : List β} : R a b → RelL R l m → RelL R (a :: l) (b :: m)
section
variable {α β : Type} {R : α → β → Prop} {lt : α → α → Bool} {lu : β → β → Bool}
theorem RelL.ins (h : ∀ a b c d, R a b → R c d → lt a c = lu b d) {a : α} {b : β} (r : R a b) : ∀ {l : List α} {m : List β}, RelL R l m → RelL R (insB lt a l) (insB lu b m)
  | _, _, .nil => .cons r .nil
  | x :: l, y :: m, .cons r1 rs => by
    unfold insB
    rw [h _ _ _ _ r1 r]
    split
    · exact .cons r1 (RelL.ins h r rs)
    · exact .cons r (.cons r1 rs)
theorem RelL.sort (h : ∀ a b c d, R a b → R c d → lt a c = lu b d) : ∀ {l : List α} {m : List β}, RelL R l m → RelL R (isortB lt l) (isortB lu m)
  | _, _, .nil => .nil
  | _, _, .cons r rs => RelL.ins h r (RelL.sort h rs)
end

/-! ### list.sort by a key -/
/-- a text's signs -/
def kxV : Value → List Nat
  | .str x _ => x.cps.toList
  | _ => []
abbrev ltKx : Keyed → Keyed → Bool := fun p q => decide (kxV p.1 < kxV q.1)
theorem natL_lt_asym (x y : List Nat) (h : decide (x < y) = true) : decide (y < x) = false := by
  have := of_decide_eq_true h
  exact decide_eq_false fun q => absurd this (List.lt_asymm q)
theorem natL_le_trans (x y z : List Nat) (h1 : decide (y < x) = false) (h2 : decide (z < y) = false) : decide (z < x) = false := by
  have a := of_decide_eq_false h1
  have b := of_decide_eq_false h2
  exact decide_eq_false (List.not_lt.mpr (List.le_trans (List.not_lt.mp a) (List.not_lt.mp b)))
theorem swo_cps {α : Type} (k : α → List Nat) : Swo fun v u : α => decide (k v < k u) := ⟨fun x y h => natL_lt_asym _ _ h, fun x y z h1 h2 => natL_le_trans _ _ _ h1 h2⟩
section
variable {prog : Program} {w : World} {A : Around} {E : Value → Shared → Prop} {s : Shared}
theorem cmp_kx : Cmp prog w A s oneType' (fun p => ∃ x t, p.1 = .str x t) ltKx := by
  rintro p q ⟨x, t, e1⟩ ⟨y, u, e2⟩
  unfold ltKx
  rw [e1, e2, keyLt'_oneType]
  exact oneLt_str ⟨rfl, rfl⟩
theorem kind_kx {keys : List Value} (h2 : 2 ≤ keys.length) (hk : ∀ v ∈ keys, ∃ x t, v = .str x t) : keyKind' keys.toArray = pure oneType' := by
  have stL : ∀ l : List Value, (∀ v ∈ l, ∃ x t, v = .str x t) → ∃ ss, StrsAre l ss := fun l => by
    induction l with
    | nil => exact fun _ => ⟨[], .nil⟩
    | cons v l ih =>
      intro h
      obtain ⟨ss, q⟩ := ih fun u hu => h u (List.mem_cons_of_mem _ hu)
      obtain ⟨x, t, rfl⟩ := h v List.mem_cons_self
      exact ⟨x :: ss, .cons x t q⟩
  match keys, h2, hk with
  | v₁ :: v₂ :: r, _, hk =>
    obtain ⟨ss, q⟩ := stL _ hk
    exact keyKind_strs q
/-- what a call of the key does: a text, what stood stands -/
def KeyOk (prog : Program) (w : World) (A : Around) (s : Shared) (f : Value) (kt : Value → List Nat) (v : Value) : Prop := ∀ (h1 : Heap) (tk : Nat) (R : Value → Shared → Prop), (∀ b o, s.heap.get? b = some o → h1.get? b = some o) →
  (∀ h2 x t tk2, (∀ b o, h1.get? b = some o → h2.get? b = some o) → x.cps.toList = kt v → R (.str x t) { s with heap := h2, toks := tk2 }) → wpAny (model prog w) A (call f [v]) R (fun _ _ => False) { s with heap := h1, toks := tk }
theorem key_fold {M : Model} {f : Value → PUnit → Sem (ForInStep PUnit)} {Q : PUnit → Shared → Prop} (I : List Value → Shared → Prop) : ∀ (vs : List Value) (s : Shared), I vs s → (∀ x r s', I (x :: r) s' → wpAny M A (f x ⟨⟩) (fun z s'' => z = .yield ⟨⟩ ∧ I r s'') E s') → (∀ s', I [] s' → Q ⟨⟩ s') → wpAny M A (forIn vs PUnit.unit f) Q E s
  | [], s, h, _, d => by rw [List.forIn_nil]; exact wpAny_pure (d s h)
  | x :: r, s, h, st, d => by
    rw [List.forIn_cons]
    refine wpAny_bind (wpAny_mono (st x r s h) (fun z s' ⟨e, h'⟩ => ?_) fun _ _ e => e)
    subst e
    exact key_fold I r s' h' st d
theorem pairs_out {kt : Value → List Nat} {vs : List Value} {xs P0 : List Keyed} (hk : ∀ p ∈ P0, kxV p.1 = kt p.2) (he : P0.map (·.2) = vs) (h1 : Srtd ltKx xs) (h2 : Stb ltKx xs P0) :
    xs.map (·.2) = isortB (fun v u => decide (kt v < kt u)) vs := by
  have hx : ∀ p ∈ xs, kxV p.1 = kt p.2 := fun p m => hk p (h2.perm.mem_iff.mp m)
  have cg : ∀ {l : List Keyed}, (∀ p ∈ l, kxV p.1 = kt p.2) → Srtd ltKx l → Srtd (fun p q : Keyed => decide (kt p.2 < kt q.2)) l := fun {l} h s => List.Pairwise.imp_of_mem (fun {a b} ha hb r => by
    show decide (kt b.2 < kt a.2) = false
    rw [← h a ha, ← h b hb]; exact r) s
  have s1 := cg hx h1
  have fl : ∀ {l : List Keyed} (u : Keyed), kxV u.1 = kt u.2 → (∀ p ∈ l, kxV p.1 = kt p.2) → l.filter (eqv ltKx u) = l.filter (eqv (fun p q : Keyed => decide (kt p.2 < kt q.2)) u) := fun {l} u hu h => List.filter_congr fun p hp => by
    unfold eqv ltKx; rw [hu, h p hp]
  have s2 : Stb (fun p q : Keyed => decide (kt p.2 < kt q.2)) xs P0 := ⟨h2.perm, fun u => by
    by_cases ex : ∃ p, p ∈ P0 ∧ eqv (fun p q : Keyed => decide (kt p.2 < kt q.2)) u p = true
    · obtain ⟨p, hp, hq⟩ := ex
      have et : eqv (fun p q : Keyed => decide (kt p.2 < kt q.2)) u = eqv (fun p q : Keyed => decide (kt p.2 < kt q.2)) p := funext fun v => eqv_trans (swo_cps fun p : Keyed => kt p.2) hq
      rw [et, ← fl p (hk p hp) hx, ← fl p (hk p hp) hk, h2.cls p]
    · have no : ∀ k : List Keyed, k.Perm P0 → k.filter (eqv (fun p q : Keyed => decide (kt p.2 < kt q.2)) u) = [] := fun k p => List.filter_eq_nil_iff.mpr fun v hv q => ex ⟨v, p.mem_iff.mp hv, q⟩
      rw [no xs h2.perm, no P0 (List.Perm.refl _)]⟩
  have m1 : Srtd (fun v u : Value => decide (kt v < kt u)) (xs.map (·.2)) := srtd_map (lt := fun v u : Value => decide (kt v < kt u)) s1
  have m2 : Stb (fun v u : Value => decide (kt v < kt u)) (xs.map (·.2)) (P0.map (·.2)) := Stb.map (lt := fun v u : Value => decide (kt v < kt u)) (swo_cps kt) (fun p : Keyed => p.2) s2
  rw [he] at m2
  exact isortB_uniq (swo_cps kt) m1 m2

theorem key_end {s0 : Shared} {h1 : Heap} {tk1 : Nat} {a kS : Addr} {vs K : List Value} {e e1 : Nat} {kt : Value → List Nat} {R : PySem.Fin → Shared → Prop} (hz : vs.length ≤ sizeLine) (kp : ∀ b o, s0.heap.get? b = some o → h1.get? b = some o ∧ b ≠ a ∧ b ≠ kS) (hka : kS ≠ a)
    (hK : h1.get? kS = some (seqObj "list" K.toArray e)) (ha : h1.get? a = some (seqObj "list" #[] e1)) (hr : RelL (fun k v => (∃ x t, k = Value.str x t) ∧ kxV k = kt v) K vs)
    (h : ∀ h' tk c, (∀ b o, s0.heap.get? b = some o → h'.get? b = some o) → h'.get? a = some (seqObj "list" (isortB (fun v u => decide (kt v < kt u)) vs).toArray c) → R (.done (.ret .none)) { s0 with heap := h', toks := tk }) :
    wpAny (model prog w) A (ksk_end a false vs.toArray e1 (.ref kS) K.toArray) R E { s0 with heap := h1, toks := tk1 } := by
  have hl : K.length = vs.length := by
    have : ∀ {K vs : List Value}, RelL (fun k v => (∃ x t, k = Value.str x t) ∧ kxV k = kt v) K vs → K.length = vs.length := fun {K vs} r => by
      induction r with
      | nil => rfl
      | cons _ _ ih => exact congrArg (· + 1) ih
    exact this hr
  have hP : ∀ p ∈ K.zip vs, (∃ x t, p.1 = Value.str x t) ∧ kxV p.1 = kt p.2 := by
    have : ∀ {K vs : List Value}, RelL (fun k v => (∃ x t, k = Value.str x t) ∧ kxV k = kt v) K vs → ∀ p ∈ K.zip vs, (∃ x t, p.1 = Value.str x t) ∧ kxV p.1 = kt p.2 := fun {K vs} r => by
      induction r with
      | nil => intro p hp; cases hp
      | cons q _ ih =>
        intro p hp
        rcases List.mem_cons.mp hp with e | hp
        · rw [e]; exact q
        · exact ih p hp
    exact this hr
  have hKs : ∀ v ∈ K, ∃ x t, v = Value.str x t := by
    have : ∀ {K vs : List Value}, RelL (fun k v => (∃ x t, k = Value.str x t) ∧ kxV k = kt v) K vs → ∀ v ∈ K, ∃ x t, v = Value.str x t := fun {K vs} r => by
      induction r with
      | nil => intro p hp; cases hp
      | cons q _ ih =>
        intro p hp
        rcases List.mem_cons.mp hp with e | hp
        · rw [e]; exact q.1
        · exact ih p hp
    exact this hr
  have hsnd : (K.zip vs).map (·.2) = vs := List.map_snd_zip (by omega)
  have hzip : (K.toArray.zip vs.toArray).toList = K.zip vs := by simp
  have tail : ∀ st : SortSt, Srtd ltKx (arrOf st).toList → Stb ltKx (arrOf st).toList (K.zip vs) → failedOf st = none → wpAny (model prog w) A (ksk_tail a false e1 (.ref kS) st) R E { s0 with heap := h1, toks := tk1 } := fun st r1 r2 r3 => by
    have out := pairs_out (kt := kt) (vs := vs) (fun p hp => (hP p hp).2) hsnd r1 r2
    have hlen : ((arrOf st).map (·.2)).size = vs.length := by
      rw [← Array.length_toList, Array.toList_map, List.length_map, r2.len, List.length_zip]; omega
    have b1 := Heap.SameBut.update h1 kS (Obj.mapSeq fun _ => (#[] : Array Value))
    have ha1 := (b1.2 a hka.symm).trans ha
    have b2 := Heap.SameBut.update (h1.update kS (Obj.mapSeq fun _ => (#[] : Array Value))) a (Obj.mapSeq fun _ => (arrOf st).map (·.2))
    obtain ⟨c2, hc2⟩ : ∃ c2, ((h1.update kS (Obj.mapSeq fun _ => (#[] : Array Value))).update a (Obj.mapSeq fun _ => (arrOf st).map (·.2))).get? a = some (seqObj "list" ((arrOf st).map (·.2)) c2) := ⟨_, get?_update_seq ha1 fun _ => (arrOf st).map (·.2)⟩
    unfold ksk_tail
    refine wpAny_bind (listUpdate_at hK rfl ?_ (by rw [List.size_toArray, hl]; exact hz) (Nat.zero_le _))
    refine wpAny_bind (wpAny_letGo (wpAny_bind (seqEpoch_at ha1 rfl ?_)))
    simp only [Bool.false_eq_true, if_false]
    refine wpAny_bind (listUpdate_at ha1 rfl ?_ (Nat.zero_le _) (by rw [hlen]; omega))
    rw [r3]
    simp only [bne_self_eq_false, Bool.false_eq_true, if_false]
    refine wpAny_pure (h _ _ c2 (fun b o q => ?_) ?_)
    · obtain ⟨q1, q2, q3⟩ := kp b o q
      exact (b2.2 b q2).trans ((b1.2 b q3).trans q1)
    · rw [hc2]
      have e3 : (arrOf st).map (·.2) = (isortB (fun v u => decide (kt v < kt u)) vs).toArray := by rw [← out, ← Array.toList_map, Array.toArray_toList]
      rw [e3]
  unfold ksk_end
  simp only [Bool.false_eq_true, if_false]
  by_cases h2 : vs.toArray.size < 2
  · rw [if_pos h2, if_pos h2]
    refine wpAny_bind (wpAny_pure ?_)
    rw [StateT.run_pure]
    refine wpAny_bind (wpAny_pure (tail _ ?_ ?_ rfl))
    · show Srtd ltKx (K.toArray.zip vs.toArray).toList
      rw [hzip]
      have h3 : (K.zip vs).length < 2 := by rw [List.length_zip]; rw [List.size_toArray] at h2; omega
      match K.zip vs, h3 with
      | [], _ => exact List.Pairwise.nil
      | [v], _ => exact List.pairwise_singleton _ _
      | _ :: _ :: l, h3 => exact absurd h3 (by rw [List.length_cons, List.length_cons]; omega)
    · show Stb ltKx (K.toArray.zip vs.toArray).toList (K.zip vs)
      rw [hzip]; exact Stb.refl _
  · rw [if_neg h2, if_neg h2, kind_kx (by rw [List.size_toArray] at h2; omega) hKs]
    refine wpAny_bind (wpAny_pure ?_)
    refine wpAny_bind (wpAny_mono (wpS_sortO (lt := ltKx) (P := fun p => ∃ x t, p.1 = Value.str x t) (st0 := SortSt.mk' oneType' (K.toArray.zip vs.toArray) #[] 7 none) (Q := fun _ st => Srtd ltKx (arrOf st).toList ∧ Stb ltKx (arrOf st).toList (K.zip vs) ∧ failedOf st = none)
      (swo_cps fun p : Keyed => kxV p.1) cmp_kx rfl (fun p hp => (hP p (by rw [← hzip]; exact hp)).1) rfl rfl fun st a1 a2 a3 => ⟨a1, by rw [← hzip]; exact a2, a3⟩) ?_ fun _ _ e => e)
    rintro ⟨⟨⟩, st⟩ s' ⟨rfl, r1, r2, r3⟩
    exact tail st r1 r2 r3
theorem key_sort {s0 : Shared} {h0 : Heap} {tk0 : Nat} {a : Addr} {vs : List Value} {n : Nat} {f : Value} {kt : Value → List Nat} {R : PySem.Fin → Shared → Prop} (hz : vs.length ≤ sizeLine) (kp : ∀ b o, s0.heap.get? b = some o → h0.get? b = some o ∧ b ≠ a)
    (ho : h0.get? a = some (seqObj "list" vs.toArray n)) (hk : ∀ v ∈ vs, KeyOk prog w A s0 f kt v)
    (h : ∀ h' tk c, (∀ b o, s0.heap.get? b = some o → h'.get? b = some o) → h'.get? a = some (seqObj "list" (isortB (fun v u => decide (kt v < kt u)) vs).toArray c) → R (.done (.ret .none)) { s0 with heap := h', toks := tk }) :
    wpAny (model prog w) A (ksk_tree a f false) R E { s0 with heap := h0, toks := tk0 } := by
  unfold ksk_tree
  obtain ⟨e1, ho1⟩ : ∃ e1, (h0.update a (Obj.mapSeq fun _ => (#[] : Array Value))).get? a = some (seqObj "list" #[] e1) := ⟨_, get?_update_seq ho fun _ => #[]⟩
  have b1 := Heap.SameBut.update h0 a (Obj.mapSeq fun _ => (#[] : Array Value))
  refine wpAny_bind (listItems_at ho rfl (wpAny_bind (listUpdate_at ho rfl ?_ (by rw [List.size_toArray]; exact hz) (Nat.zero_le _))))
  refine wpAny_bind (seqEpoch_at ho1 rfl (wpAny_bind (wpAny_newTuple ?_ hz)))
  refine wpAny_bind (wpAny_newList (wpAny_holding ?_) (Nat.zero_le _))
  unfold ksk_rest
  refine wpAny_bind (wpAny_rule ?_)
  generalize hkS : ((h0.update a (Obj.mapSeq fun _ => (#[] : Array Value))).push { cls := .type "tuple", data := .seq vs.toArray.toList.toArray }).objs.size = kS
  have pushes : ∀ b o, (h0.update a (Obj.mapSeq fun _ => (#[] : Array Value))).get? b = some o → (((h0.update a (Obj.mapSeq fun _ => (#[] : Array Value))).push { cls := .type "tuple", data := .seq vs.toArray.toList.toArray }).push { cls := .type "list", data := .seq ([] : List Value).toArray }).get? b = some o ∧ b ≠ kS := fun b o q => by
    have lt := Heap.lt_size q
    refine ⟨Heap.get?_push_of_some _ (Heap.get?_push_of_some _ q), ?_⟩
    rw [← hkS, Heap.size_push]
    exact Nat.ne_of_lt (Nat.lt_succ_of_lt lt)
  rw [← Array.forIn_toList]
  refine wpAny_bind (key_fold (fun r s' => ∃ h1 tk K e d, s' = { s0 with heap := h1, toks := tk } ∧ (∀ b o, s0.heap.get? b = some o → h1.get? b = some o ∧ b ≠ a ∧ b ≠ kS) ∧ kS ≠ a ∧ h1.get? kS = some (seqObj "list" (List.toArray K) e) ∧ h1.get? a = some (seqObj "list" #[] e1) ∧ vs = d ++ r ∧ RelL (fun k v => (∃ x t, k = Value.str x t) ∧ kxV k = kt v) K d)
    vs.toArray.toList _ ⟨_, _, [], 0, [], rfl, fun b o q => ?_, ?_, ?_, (pushes a _ ho1).1, by simp, .nil⟩ ?_ ?_)
  · obtain ⟨q1, q2⟩ := kp b o q
    obtain ⟨q3, q4⟩ := pushes b o ((b1.2 b q2).trans q1)
    exact ⟨q3, q2, q4⟩
  · exact fun z => (pushes a _ ho1).2 z.symm
  · rw [← hkS]; exact Heap.get?_push_size _ rfl
  · rintro x r s' ⟨h1, tk, K, e, d, rfl, kp1, hka, hK, ha, hv, hr⟩
    have hx : x ∈ vs := by rw [hv]; simp
    have hKl : K.length + 1 ≤ vs.length := by
      have : K.length = d.length := by
        clear hv hK
        induction hr with
        | nil => rfl
        | cons _ _ ih => exact congrArg (· + 1) ih
      rw [hv, List.length_append, List.length_cons]; omega
    refine wpAny_bind (wpAny_attempt (wpAny_mono (hk x hx h1 tk (fun k s2 => ∃ h2 x' t tk2, s2 = { s0 with heap := h2, toks := tk2 } ∧ k = .str x' t ∧ (∀ b o, h1.get? b = some o → h2.get? b = some o) ∧ x'.cps.toList = kt x) (fun b o q => (kp1 b o q).1) fun h2 x' t tk2 k2 e2 => ⟨h2, x', t, tk2, rfl, rfl, k2, e2⟩) (fun k s2 hq => ?_) fun _ _ e => e.elim))
    obtain ⟨h2, x', t, tk2, rfl, rfl, k2, e2⟩ := hq
    have hK2 := k2 _ _ hK
    have ha2 := k2 _ _ ha
    have b3 := Heap.SameBut.update h2 kS (Obj.mapSeq (·.push (Value.str x' t)))
    obtain ⟨c3, hc3⟩ : ∃ c3, (h2.update kS (Obj.mapSeq (·.push (Value.str x' t)))).get? kS = some (seqObj "list" (K.toArray.push (Value.str x' t)) c3) := ⟨_, get?_update_seq hK2 (·.push (Value.str x' t))⟩
    show wpAny _ _ (Builtin.List.listUpdate (.ref kS) (·.push (Value.str x' t)) >>= _) _ _ _
    refine wpAny_bind (listUpdate_at hK2 rfl ?_ (by rw [List.size_toArray]; omega) (by rw [Array.size_push, List.size_toArray]; omega))
    refine wpAny_pure ⟨rfl, _, _, K ++ [Value.str x' t], c3, d ++ [x], rfl, fun b o q => ?_, hka, ?_, (b3.2 a hka.symm).trans ha2, by rw [hv]; simp, ?_⟩
    · obtain ⟨q1, q2, q3⟩ := kp1 b o q
      exact ⟨(b3.2 b q3).trans (k2 b o q1), q2, q3⟩
    · rw [hc3]; simp
    · have snoc : ∀ {K d : List Value}, RelL (fun k v => (∃ x t, k = Value.str x t) ∧ kxV k = kt v) K d → RelL (fun k v => (∃ x t, k = Value.str x t) ∧ kxV k = kt v) (K ++ [Value.str x' t]) (d ++ [x]) := fun {K d} r => by
        induction r with
        | nil => exact .cons ⟨⟨x', t, rfl⟩, e2⟩ .nil
        | cons q _ ih => exact .cons q ih
      exact snoc hr
  · rintro s' ⟨h1, tk, K, e, d, rfl, kp1, hka, hK, ha, hv, hr⟩
    rw [List.append_nil] at hv
    subst hv
    refine wpAny_bind (listItems_at hK rfl ?_)
    exact key_end hz kp1 hka hK ha hr h
/-- sorted(l, key=f) -/
theorem sorted_key {l : Addr} {vs : List Value} {f : Value} {kw : List (Str × Value)} {kt : Value → List Nat} {Q : Value → Shared → Prop} (hl : s.heap.IsList l vs.toArray) (hz : vs.length ≤ sizeLine) (ha1 : argsOk "sorted" ⟨[.ref l], kw⟩) (ha2 : ∀ x, argsOk "list.sort" ⟨[.ref x], kw⟩) (ht : ∀ x, Builtin.«list.sort» ⟨[.ref x], kw⟩ = ksk_tree x f false)
    (hk : ∀ v ∈ vs, KeyOk prog w A.in1.in1 s f kt v) (h : ∀ h' tk D c, (∀ b o, s.heap.get? b = some o → h'.get? b = some o) → s.heap.objs.size ≤ D → h'.get? D = some (seqObj "list" (isortB (fun v u => decide (kt v < kt u)) vs).toArray c) → Q (.ref D) { s with heap := h', toks := tk }) :
    wpAny (model prog w) A (call (.builtin "sorted") [.ref l] kw) Q E s := by
  refine call_function_entry_kw kind_sorted plain_sorted entry_sorted ha1 ?_
  unfold Builtin.«sorted»
  refine wpAny_bind (m := checkCount "sorted" 1 1 _) (wpAny_pure (wpAny_bind (collect_list hl ?_ hz)))
  refine wpAny_bind (wpAny_newList ?_ hz)
  obtain ⟨hA, hhA⟩ : ∃ hA, (s.heap.push (seqObj "list" #[] 0)).update s.heap.objs.size (Obj.mapSeq (· ++ vs.toArray)) = hA := ⟨_, rfl⟩
  have kA : ∀ b o, s.heap.get? b = some o → hA.get? b = some o := fun b o q => by
    rw [← hhA, Heap.get?_update_ne _ _ _ _ (Nat.ne_of_lt (Heap.lt_size q))]
    exact Heap.get?_push_of_some _ q
  show wpAny _ _ _ _ _ { s with heap := ((s.heap.push (seqObj "list" #[] 0)).update s.heap.objs.size (Obj.mapSeq (· ++ vs.toArray))).push (seqObj "list" vs.toArray 0) }
  rw [hhA]
  have hsz : s.heap.objs.size ≤ hA.objs.size := by rw [← hhA, Heap.size_update, size_push']; exact Nat.le_succ _
  have hoD : (hA.push (seqObj "list" vs.toArray 0)).get? hA.objs.size = some (seqObj "list" vs.toArray 0) := Heap.get?_push_size _ rfl
  refine wpAny_bind (wpAny_holding (wpAny_call_entry_kw slot_list_sort ⟨_, hoD, rfl⟩ entry_list_sort ?_ (ha2 _)))
  rw [ht]
  refine key_sort (s0 := s) (tk0 := s.toks) hz (fun b o q => ⟨Heap.get?_push_of_some _ (kA b o q), fun z => ?_⟩) hoD hk fun h' tk c k2 hc => ⟨_, rfl, wpAny_pure ⟨_, rfl, h h' tk _ c k2 hsz hc⟩⟩
  have lt := Heap.lt_size q
  rw [z] at lt
  exact absurd hsz (Nat.not_le.mpr lt)
end
end MP

set_option maxRecDepth 100000
set_option maxHeartbeats 1000000
/-! MP17f: sorted texts, join, len of a set, comparisons of lists of shared objects. -/
namespace MP
open PySem PySem.Spec PyProof.Rows L2 SrtO

def ltV : V → V → Bool
  | .str x, .str y => decide (x.cps.toList < y.cps.toList)
  | _, _ => false
def sV : V → Value → Prop := fun v u => ∃ x t, v = .str x ∧ u = .str x t
def sD : D → V → Prop := fun d v => ∃ x, d = .str x ∧ v = .str x
theorem sV_vals : ∀ {xs : List V} {us : List Value}, RelL sV xs us → Vals xs us
  | _, _, .nil => .nil
  | _, _, .cons ⟨x, t, e1, e2⟩ r => by subst e1 e2; exact .cons ⟨t, rfl⟩ (sV_vals r)
theorem vals_sV : ∀ {xs : List V} {us : List Value} {ds : List D}, RelL sD ds xs → Vals xs us → RelL sV xs us
  | _, _, _, .nil, r => by cases r; exact .nil
  | _, _, _, .cons ⟨x, e1, e2⟩ rs, r => by
    subst e1 e2
    cases r with
    | cons a b => obtain ⟨t, rfl⟩ := a; exact .cons ⟨x, t, rfl, rfl⟩ (vals_sV rs b)
theorem sD_reps {C : RC} {ι : List Addr} {M : Addr → Prop} {H : Hp} : ∀ {ds : List D} {xs : List V}, RelL sD ds xs → Reps C ι M H xs ds
  | _, _, .nil => .nil
  | _, _, .cons ⟨x, e1, e2⟩ r => by subst e1 e2; exact .cons (.str x) (sD_reps r)
theorem reps_sD {C : RC} {ι : List Addr} {M : Addr → Prop} {H : Hp} : ∀ {ds : List D} {xs : List V}, Reps C ι M H xs ds → ds.all isStrD = true → RelL sD ds xs
  | _, _, .nil, _ => .nil
  | _, _, .cons r rs, h => by
    rw [List.all_cons] at h
    obtain ⟨h1, h2⟩ := and2 h
    cases r <;> first | (cases h1; done) | exact .cons ⟨_, rfl, rfl⟩ (reps_sD rs h2)
theorem ltSV (a : D) (b : V) (c : D) (d : V) : sD a b → sD c d → ltS a c = ltV b d := by
  rintro ⟨x, rfl, rfl⟩ ⟨y, rfl, rfl⟩; rfl
theorem ltVU (a : V) (b : Value) (c : V) (d : Value) : sV a b → sV c d → ltV a c = decide (kxV b < kxV d) := by
  rintro ⟨x, t, rfl, rfl⟩ ⟨y, u, rfl, rfl⟩; rfl
theorem RelL.length {α β : Type} {R : α → β → Prop} : ∀ {l : List α} {m : List β}, RelL R l m → l.length = m.length
  | _, _, .nil => rfl
  | _, _, .cons _ r => congrArg (· + 1) r.length
theorem isortB_len {α : Type} {lt : α → α → Bool} (l : List α) : (isortB lt l).length = l.length := (isortB_perm l).length_eq
def rSrt (K : PySem.W.Frag) (t : V) : List V → List V → Hp → VK → Prop := fun vs zs H Q => ∃ a xs ds, vs = [V.ref a] ∧ zs = [t] ∧ SqL K H a xs ∧ RelL sD ds xs ∧ ∀ p, H p = none → Q (.ref p) (upd H p (.lst (isortB ltV xs)))
section
variable {X : Cx}
theorem key_str {prog : Program} {w : World} {A : Around} {s : Shared} {v : Value} (h : ∃ x t, v = .str x t) : KeyOk prog w A s (.type "str") kxV v := by
  obtain ⟨x, t, rfl⟩ := h
  exact fun h1 tk R k q => PySem.P.str_of_str (q h1 x t tk (fun _ _ z => z) rfl)
theorem cr_srt {t : V} (ht : ∀ u, RelV t u → u = .type "str") : CallRK X (.builtin "sorted") [Str.ofString "key"] (rSrt X.K t) := by
  intro pins s σ H vs zs us ws Q I r rz ⟨a, xs, ds, e1, e2, hs, rd, q⟩
  subst e1 e2
  obtain ⟨its, rv, hl, hz⟩ := I.list hs
  rw [Vals.ref1 r]
  obtain ⟨w1, rfl, e1⟩ := vals1 rz
  obtain rfl := ht _ e1
  have rs := vals_sV rd rv
  have hz' : its.length ≤ sizeLine := by rw [← rv.length]; exact hz
  refine sorted_key (kt := kxV) hl.isList hz' (ksk_s1 _ _) (fun _ => ksk_l1 _ _) (fun _ => rfl) (fun v hv => key_str ?_) fun h' tk D c k2 hD hc => ?_
  · have : ∀ {xs : List V} {us : List Value}, RelL sV xs us → ∀ v ∈ us, ∃ x t, v = .str x t := fun {xs us} r => by
      induction r with
      | nil => intro v hv; cases hv
      | cons q _ ih =>
        intro v hv
        rcases List.mem_cons.mp hv with e | hv
        · obtain ⟨x, t, _, e2⟩ := q; exact ⟨x, t, e.trans e2⟩
        · exact ih v hv
    exact this rs v hv
  · have rs2 := RelL.sort (lt := ltV) (lu := fun v u => decide (kxV v < kxV u)) ltVU rs
    have hlen : (isortB ltV xs).length ≤ sizeLine := by rw [isortB_len]; exact hz
    exact ⟨.ref D, upd H D (.lst (isortB ltV xs)), I.laid (t' := tk) k2 hD ⟨hlen, _, c, sV_vals rs2, hc⟩, rfl, q D (I.hok.fresh hD)⟩
end
section
variable {tb : Tb} {Φ : Nat → List D → MH → R D} {x : Tx} {N : List Str} {j : Nat} {S : SC} {X : Cx} {sc : Scope} {e ea eb eo : Expr} {a b m o : M} {pos p p2 ap kp : Pos} {y z : Str}
theorem e_srtF (G : Gd tb Φ x N j S X) (hs : X.env.scope = sc) (h1 : glo1 x sc y "sorted" = true) (h2 : glo1 x sc z "str" = true) (hp : plainA e = true) (ha : PE X e (tO tb Φ S m)) : PE X (.Call (.Name y p) [e] [⟨some "key", .Name z p2, kp⟩] pos) (tF tb Φ S (.srt .str m)) := by
  obtain ⟨rfl, g1, f1⟩ := glo1_of h1
  obtain ⟨rfl, g2, f2⟩ := glo1_of h2
  have hK : S.C.K = X.K := by rw [G.C]
  have st := plain_star (env := X.env) (es := []) hp
  refine PE.imp (pe_callBK (ks := [Str.ofString "key"]) (cr_srt (t := tyV x.ca .str) fun u r => r) (glB_of g1 hs) (G.tx.fre _ f1) (by kernel_rfl) (pa_cons ha pa_nil st) (pk_cons (ty_name (t := .str) G hs rfl g2 (by decide) f2) pk_nil) (by decide) (by decide) (by rw [st]; rfl) (by rw [st]; rfl) rfl rfl rfl) fun σ H Q ⟨ι, e, h, rl, d, h', eq, K⟩ => ?_
  obtain ⟨xo, h1, e1, eq⟩ := bind_ok eq
  refine ⟨ι, e, h, rl, xo, h1, e1, fun ι1 H1 v1 g1 rl1 r1 => ?_⟩
  cases hv : vo e h1 xo with
  | none => simp only [hv] at eq; cases eq
  | some c =>
    simp only [hv] at eq
    have rv := rl1.vo r1 hv
    cases rv with
    | @lst ad vs ds hh rs =>
      obtain ⟨hc, eq⟩ := ite_ok' eq
      cases eq
      obtain ⟨hc1, hc2⟩ := and2 hc
      have rd := reps_sD rs hc1
      refine ⟨ad, vs, ds, rfl, rfl, SqL.of hh, rd, fun p hp => ?_⟩
      have gn : Go ι1 (Mu S.M0 ι1 e σ) H1 ι1 (Mu (SP1 S p).M0 ι1 e σ) (upd H1 p (.lst (isortB ltV vs))) := goNew hp
      exact K ι1 _ p (g1.back hp) (rl1.notin hp) (g1.trans gn) (rl1.plusNew hp) (.lst upd_same (sD_reps (RelL.sort (lt := ltS) (lu := ltV) ltSV rd)))
    | _ => cases eq
theorem strs_map {C : RC} {ι : List Addr} {M : Addr → Prop} {H : Hp} : ∀ {ds : List D} {vs : List V} {xs : List Str}, Reps C ι M H vs ds → strsD ds = some xs → vs = xs.map V.str
  | _, _, _, .nil, h => by cases h; rfl
  | d :: ds, _, xs, .cons r rs, h => by
    cases r <;> first | (cases h; done) | skip
    obtain ⟨ys, h1, rfl⟩ := Option.map_eq_some_iff.mp (show (strsD ds).map _ = some xs from h)
    rw [strs_map rs h1]; rfl
theorem lenS_sum : ∀ xs : List Str, lenS xs = (xs.map (·.length)).sum
  | [] => rfl
  | x :: r => by unfold lenS; rw [lenS_sum r]; rfl
theorem e_join (G : Gd tb Φ x N j S X) (ho : PE X eo (tE tb Φ S o)) (ha : PE X e (tO tb Φ S m)) (hb : baseP eo = true) (hp : plainA e = true) (hl : (ap.endLine == pos.line) = true) : PE X (.Call (.Attribute eo "join" ap) [e] [] pos) (tE tb Φ S (.join o m)) := by
  refine PE.imp (pe_join ho ha (plain_star hp) (base_plain hb) hl) fun σ H Q ⟨ι, e, h, rl, d, h', eq, K⟩ => ?_
  obtain ⟨dx, h1, e1, eq⟩ := bind_ok eq
  obtain ⟨xo, h2, e2, eq⟩ := bind_ok eq
  have hx : ∃ a, dx = .str a := by
    cases dx <;> first | exact ⟨_, rfl⟩ | (cases hv : vo e h2 xo <;> rw [hv] at eq <;> cases eq)
  obtain ⟨a, rfl⟩ := hx
  refine ⟨ι, e, h, rl, _, h1, e1, fun ι1 H1 v1 g1 rl1 r1 => ?_⟩
  cases r1
  refine ⟨⟨a, rfl⟩, ι1, e, h1, rl1, xo, h2, e2, fun ι2 H2 v2 g2 rl2 r2 => ?_⟩
  cases hv : vo e h2 xo with
  | none => simp only [hv] at eq; cases eq
  | some c =>
    simp only [hv] at eq
    have rv := rl2.vo r2 hv
    cases rv with
    | @lst ad vs ds hh rs =>
      have eq' : (match strsD ds with
        | some xs => if lenS xs + ds.length * a.length ≤ lim then R.ok (.str (Txt.join a xs)) h2 else .no
        | none => .no) = R.ok d h' := eq
      cases hq : strsD ds with
      | none => rw [hq] at eq'; cases eq'
      | some xs =>
        rw [hq] at eq'
        obtain ⟨hc, eq2⟩ := ite_ok' eq'
        cases eq2
        have hvs := strs_map rs hq
        subst hvs
        have hlen : xs.length = ds.length := by have := rs.length; rw [List.length_map] at this; exact this
        refine ⟨a, ad, xs, rfl, rfl, .inl (SqL.of hh), ?_, K ι2 H2 _ (g1.trans g2) rl2 (.str _)⟩
        rw [← lenS_sum, hlen]
        have : lim = 10000000 := rfl
        omega
    | _ => cases eq
theorem e_slen {ws : List Nat} {i : Nat} {elt tg iter : Expr} {scope : Scope} {own : List (Str × Nat)} {cp : Pos} (G : Gd tb Φ x N j S X) (hs : X.env.scope = sc) (h1 : glo1 x sc y "len" = true) (hi : PI X tg iter (tI tb Φ S (.val m))) (ok : BlkOk X.N X.env.scope scope own) (hw : own.map (·.2) = ws)
    (hg : ∀ (s : Shared) (H : Hp) (C : Addr) (cl : List (Str × Addr)) (fp : List Addr), PG (X.blk s H scope (compEnvC scope cl C X.env) fp) tg (tG tb S.C (.nm i)))
    (he : ∀ (s : Shared) (H : Hp) (C : Addr) (cl : List (Str × Addr)) (fp : List Addr), PE (X.blk s H scope (compEnvC scope cl C X.env) fp) elt (xE tb Φ S.C (.var i))) (hp : plainA iter = true) :
    PE X (.Call (.Name y p) [.SetComp elt [⟨tg, iter, [], 0⟩] scope cp] [] pos) (tE tb Φ S (.slen ws i m)) := by
  obtain ⟨rfl, g1, f1⟩ := glo1_of h1
  refine PE.imp (pe_callB call_lenK (glB_of g1 hs) (G.tx.fre _ f1) boot_len (pa_cons (pe_sk G.calm (by rw [G.nm]; exact G.nd) hi ok hg he (plain_fold hp X.env)) pa_nil rfl) (by decide) (by decide) rfl rfl) fun σ H Q q => ?_
  rw [hw]
  exact slen_read q
/-! ### what shared objects hold, compared -/
theorem dpV_dp {ι : List Addr} {e : Ev} {h : MH} {σ : L2.St} {H : Hp} {v : V} {d : D} {k : Nat} (rl : Rel S ι e h σ H) (r : VRep S.C ι (Mu S.M0 ι e σ) H v d) (f : fit (dpV h d) k = true) : Dp S.C.K H v (dpV h d).pd := by
  have item : ∀ {v : V} {x : D} {k : Nat}, Rep S.C ι (Mu S.M0 ι e σ) H v x → fit (dp1 h x) k = true → Dp S.C.K H v (dp1 h x).pd := fun {v x k} r f => by
    by_cases hx : ∃ n, x = .ref n
    · obtain ⟨n, rfl⟩ := hx
      cases r with
      | @ref a n hn =>
        have f' : fit ((h[n]?).getD (.ref n)) k = true := f
        show Dp S.C.K H (.ref a) ((h[n]?).getD (.ref n)).pd
        cases hc : h[n]? with
        | none => rw [hc, Option.getD_none] at f'; simp [fit] at f'
        | some c =>
          rw [hc, Option.getD_some] at f'
          obtain ⟨a', q1, q2⟩ := rl.hp n c hc
          rw [hn] at q1
          cases q1
          exact q2.vw.dp f'
    · have e1 : dp1 h x = x := by cases x <;> first | rfl | exact absurd ⟨_, rfl⟩ hx
      rw [e1] at f ⊢
      exact r.dp f
  have items : ∀ {ds : List D} {vs : List V} {k : Nat}, Reps S.C ι (Mu S.M0 ι e σ) H vs ds → fitL (ds.map (dp1 h)) k = true → DpAll S.C.K H vs (pdL (ds.map (dp1 h))) := fun {ds} => by
    induction ds with
    | nil => intro vs k r _; cases r; exact .nil
    | cons d ds ih =>
      intro vs k r f
      cases r with
      | cons r rs =>
        obtain ⟨f1, f2⟩ := and2 f
        exact .cons (item r f1) (ih rs f2)
  cases r with
  | lst hh rs =>
    cases k with
    | zero => simp [dpV, fit] at f
    | succ k => exact .lst (SqL.of hh) (items rs f)
  | non => exact .non
  | bl b => exact .bl b
  | int b => exact .int b
  | str b => exact .str b
  | tup a b => exact (VRep.tup (C := S.C) a b).dp (k := k) f
  | scr a b => simp [dpV, fit] at f
  | dctK a b => simp [dpV, fit] at f
  | dctT a b => simp [dpV, fit] at f
  | dctG a b => simp [dpV, fit] at f
  | ins a b => simp [dpV, fit] at f
/-- == and != by content -/
def rEqV (K : PySem.W.Frag) (f : Bool → Bool) : R2 := fun x y H Q => ∃ d e, Dp K H x d ∧ Dp K H y e ∧ SeqAt.shaped d = true ∧ SeqAt.shaped e = true ∧ Q (.bl (f (PyData.eqv d e))) H
def opV : Cop → Bool → Bool
  | .ne => fun b => !b
  | _ => fun b => b
theorem cmpDV_of {op : Cop} {x y : D} {b : Bool} (h : cmpDV op x y = some b) : (op = .eq ∨ op = .ne) ∧ fit x 60 = true ∧ fit y 60 = true ∧ b = opV op (eqD x y) := by
  cases op <;> first | (cases h; done) | skip
  · have h' : (if fit x 60 && fit y 60 then some (eqD x y) else none) = some b := h
    split at h'
    · rename_i hc
      cases h'
      exact ⟨.inl rfl, (and2 hc).1, (and2 hc).2, rfl⟩
    · cases h'
  · have h' : (if fit x 60 && fit y 60 then some (!eqD x y) else none) = some b := h
    split at h'
    · rename_i hc
      cases h'
      exact ⟨.inr rfl, (and2 hc).1, (and2 hc).2, rfl⟩
    · cases h'
theorem op_eqV (hu : X.A.units + 65 < cLine) {op : Cop} (h : op = .eq ∨ op = .ne) : OpR X (compareOp (copOf op)) (rEqV X.K (opV op)) := by
  rcases h with rfl | rfl
  · exact opr_imp (op_eqD (by omega)) fun x y H Q ⟨d, e, a1, a2, a3, a4, q⟩ => ⟨d, e, a1, a2, a3, a4, q⟩
  · exact opr_imp (op_neD (by omega)) fun x y H Q ⟨d, e, a1, a2, a3, a4, q⟩ => ⟨d, e, a1, a2, a3, a4, q⟩
theorem cmpV_core {op : Cop} {σ : L2.St} {H : Hp} {Q : VK} {ι : List Addr} {e : Ev} {h h' : MH} {d : D} (G : Gd tb Φ x N j S X) (rl : Rel S ι e h σ H) (eq : ev tb Φ (.cmpV op a b) e h = .ok d h')
    (K : ∀ ι' H' (k : Bool), d = .bl k → Go ι (Mu S.M0 ι e σ) H ι' (Mu S.M0 ι' e σ) H' → Rel S ι' e h' σ H' → Q (.bl k) H') : tOp (rEqV X.K (opV op)) (tO tb Φ S a) (tO tb Φ S b) σ H Q := by
  have hK : S.C.K = X.K := by rw [G.C]
  obtain ⟨xo, h1, e1, eq⟩ := bind_ok eq
  obtain ⟨yo, h2, e2, eq⟩ := bind_ok eq
  refine ⟨ι, e, h, rl, xo, h1, e1, fun ι1 H1 v1 g1 rl1 r1 => ⟨ι1, e, h1, rl1, yo, h2, e2, fun ι2 H2 v2 g2 rl2 r2 => ?_⟩⟩
  obtain ⟨dx, dy, hx, hy, hf⟩ := vo2 (S := S) (ι := ι) eq
  obtain ⟨hd, rfl⟩ := of_ok hf
  obtain ⟨k, hk, rfl⟩ := Option.map_eq_some_iff.mp hd
  obtain ⟨_, f1, f2, rfl⟩ := cmpDV_of hk
  rw [← hK]
  refine ⟨_, _, dpV_dp rl2 (rl2.vo (r1.go g2) hx) f1, dpV_dp rl2 (rl2.vo r2 hy) f2, fit_shaped f1 (by decide), fit_shaped f2 (by decide), ?_⟩
  rw [eqv_eqD _ _ 60 60 f1 f2]
  exact K ι2 H2 _ rfl (g1.trans g2) rl2
theorem cmpV_op {op : Cop} {σ : L2.St} {H : Hp} {ι : List Addr} {e : Ev} {h h' : MH} {d : D} (eq : ev tb Φ (.cmpV op a b) e h = .ok d h') : op = .eq ∨ op = .ne := by
  obtain ⟨xo, h1, e1, eq⟩ := bind_ok eq
  obtain ⟨yo, h2, e2, eq⟩ := bind_ok eq
  cases hx : vo e h2 xo with
  | none => rw [hx] at eq; cases eq
  | some dx =>
    cases hy : vo e h2 yo with
    | none => rw [hx, hy] at eq; cases eq
    | some dy =>
      rw [hx, hy] at eq
      obtain ⟨hd, _⟩ := of_ok eq
      obtain ⟨k, hk, rfl⟩ := Option.map_eq_some_iff.mp hd
      exact (cmpDV_of hk).1
theorem e_cmpV {op : Cop} (G : Gd tb Φ x N j S X) (ha : PE X ea (tO tb Φ S a)) (hb : PE X eb (tO tb Φ S b)) (hp : plainA eb = true) : PE X (.Compare ea [copOf op] [eb] pos) (tE tb Φ S (.cmpV op a b)) := by
  by_cases ho : op = .eq ∨ op = .ne
  · exact PE.imp (pe_cmpR (op_eqV G.hu ho) ha hb (plain_mark hp)) fun σ H Q ⟨ι, e, h, rl, d, h', eq, K⟩ => cmpV_core G rl eq fun ι' H' k ed g rl' => K ι' H' _ g rl' (ed ▸ .bl k)
  · exact ⟨fun pins s σ H Q I ⟨ι, e, h, rl, d, h', eq, K⟩ => absurd (cmpV_op (σ := σ) (H := H) (ι := ι) eq) ho⟩
theorem t_cmpV {op : Cop} (G : Gd tb Φ x N j S X) (ha : PE X ea (tO tb Φ S a)) (hb : PE X eb (tO tb Φ S b)) (hp : plainA eb = true) : PT X (.Compare ea [copOf op] [eb] pos) (tT tb Φ S (.v (.cmpV op a b))) := by
  have st : ∀ {e h t h'}, evT tb Φ (.v (.cmpV op a b)) e h = .ok t h' → ∃ d, ev tb Φ (.cmpV op a b) e h = .ok d h' ∧ truD d = some t := fun {e h t h'} eq => by
    obtain ⟨xo, h1, e1, eq⟩ := bind_ok eq
    obtain ⟨d, h2, e2, e3⟩ := bind_ok (show (ev tb Φ (.cmpV op a b) e h).bind (fun d h => .ok (Od.d d) h) = R.ok xo h1 from e1)
    cases e3
    obtain ⟨eq, rfl⟩ := of_ok eq
    obtain ⟨c, hc, ht⟩ := Option.bind_eq_some_iff.mp eq
    obtain ⟨x', h3, e4, e5⟩ := bind_ok e2
    obtain ⟨y', h4, e6, e7⟩ := bind_ok e5
    refine ⟨d, e2, ?_⟩
    have : d = c := by
      cases hx : vo e h4 x' with
      | none => rw [hx] at e7; cases e7
      | some dx =>
        cases hy : vo e h4 y' with
        | none => rw [hx, hy] at e7; cases e7
        | some dy =>
          rw [hx, hy] at e7
          obtain ⟨hd, rfl⟩ := of_ok e7
          obtain ⟨k, hk, rfl⟩ := Option.map_eq_some_iff.mp hd
          exact Option.some.inj hc
    rw [this]; exact ht
  by_cases ho : op = .eq ∨ op = .ne
  · refine PT.imp (pt_cmpR (op_eqV G.hu ho) ha hb (plain_mark hp)) fun σ H Q ⟨ι, e, h, rl, t, h', eq, K⟩ => ?_
    obtain ⟨d, e2, ht⟩ := st eq
    refine cmpV_core G rl e2 fun ι' H' k ed g rl' => ⟨k, rfl, ?_⟩
    subst ed
    cases ht
    exact K ι' H' g rl'
  · refine ⟨fun pins s σ H Q I ⟨ι, e, h, rl, t, h', eq, K⟩ => ?_⟩
    obtain ⟨d, e2, ht⟩ := st eq
    exact absurd (cmpV_op (σ := σ) (H := H) (ι := ι) e2) ho
end
end MP

set_option maxRecDepth 100000
set_option maxHeartbeats 1000000
/-! MP18: what the checker has seen. -/
namespace MP
open PySem PySem.Spec PyProof.Rows L2

section
variable {tb : Tb} {Φ : Nat → List D → MH → R D} {x : Tx} {N : List Str} {j : Nat}
theorem Gd.sc {S S' : SC} {X : Cx} (G : Gd tb Φ x N j S X) (h : S'.C = S.C) : Gd tb Φ x N j S' X := ⟨h.trans G.C, G.calm, G.nm, G.nd, G.hu, by rw [h]; exact G.tx, by rw [h]; exact G.fn, G.room⟩
theorem Gd.blk {S : SC} {X : Cx} (G : Gd tb Φ x N j S X) (s : Shared) (H : Hp) (scope : Scope) (cenv : Env) (fp : List Addr) : Gd tb Φ x N j S (X.blk s H scope cenv fp) := ⟨G.C, G.calm, G.nm, G.nd, G.hu, G.tx, G.fn, G.room⟩
theorem blk_loc {X : Cx} {s : Shared} {H : Hp} {scope : Scope} {C : Addr} {cl : List (Str × Addr)} {fp : List Addr} (y : Str) (h : locB scope y = true) :
    Loc (X.blk s H scope (compEnvC scope cl C X.env) fp).env.scope y ∧ ((X.blk s H scope (compEnvC scope cl C X.env) fp).fn y = true ∨ (X.blk s H scope (compEnvC scope cl C X.env) fp).env.scope.names.lookup y = some .local) := by
  have hsc : (X.blk s H scope (compEnvC scope cl C X.env) fp).env.scope = relS scope X.env.scope := rfl
  unfold locB at h
  split at h
  · rename_i q
    have := lookup_relS_keep (sc := X.env.scope) (by decide) q
    exact ⟨.inl this, .inr this⟩
  · rename_i q
    have := lookup_relS_keep (sc := X.env.scope) (by decide) q
    refine ⟨.inr this, .inl ?_⟩
    show (scope.names.lookup y == some .cell) = true
    rw [q]; decide
  · cases h
theorem po_of {S : SC} {X : Cx} {sc : Scope} {m : M} {e : Expr} (G : Gd tb Φ x N j S X) (hs : X.env.scope = sc) (h : chk x N sc m e = true) (pe : PE X e (tE tb Φ S m)) : PE X e (tO tb Φ S m) := by
  cases m with
  | var i =>
    cases e <;> first | (cases h; done) | skip
    obtain ⟨h1, h2, h3⟩ := and3 h
    exact e_var G hs (of_decide_eq_true h1) h2 h3
  | _ => exact e_o pe fun _ _ _ => rfl
theorem ownL_snd (N : List Str) (ws : List Nat) : (ownL N ws).map (·.2) = ws := by
  unfold ownL
  rw [List.map_map]
  exact (List.map_congr_left fun _ _ => rfl).trans (List.map_id ws)


/-! what the checker has seen, form by form -/
section
variable {sc : Scope} {e : Expr}
theorem i_var {i : Nat} (h : chk x N sc (.var i) e = true) : ∃ y p, e = .Name y p ∧ N[i]? = some y ∧ visB sc y = true ∧ dbgOk y = true := by
  cases e <;> first | (cases h; done) | skip
  obtain ⟨h1, h2, h3⟩ := and3 h
  exact ⟨_, _, rfl, of_decide_eq_true h1, h2, h3⟩
theorem i_cst {d : D} (h : chk x N sc (.cst d) e = true) : ∃ c k p, e = .Constant c k p ∧ isC c d = true := by
  cases e <;> first | (cases h; done) | skip
  exact ⟨_, _, _, rfl, h⟩
theorem i_glo {g : Nat} (h : chk x N sc (.glo g) e = true) : ∃ y p, e = .Name y p ∧ x.glN g = some y ∧ glB sc y = true ∧ dbgOk y = true := by
  cases e <;> first | (cases h; done) | skip
  obtain ⟨h1, h2, h3⟩ := and3 h
  exact ⟨_, _, rfl, of_decide_eq_true h1, h2, h3⟩
theorem i_bin {op : Bop} {a b : M} (h : chk x N sc (.bin op a b) e = true) : ∃ ea eb p, e = .BinOp ea (bopOf op) eb p ∧ chk x N sc a ea = true ∧ chk x N sc b eb = true := by
  cases e <;> first | (cases h; done) | skip
  obtain ⟨h1, h2, h3⟩ := and3 h
  have e1 := of_decide_eq_true h1
  subst e1
  exact ⟨_, _, _, rfl, h2, h3⟩
theorem i_neg {a : M} (h : chk x N sc (.neg a) e = true) : ∃ ea p, e = .UnaryOp .USub ea p ∧ chk x N sc a ea = true := by
  cases e <;> first | (cases h; done) | skip
  rename_i op ea pos
  cases op <;> first | (cases h; done) | skip
  exact ⟨_, _, rfl, h⟩
theorem i_cmp {op : Cop} {a b : M} (h : chk x N sc (.cmp op a b) e = true) : ∃ ea eb p, e = .Compare ea [copOf op] [eb] p ∧ plainA eb = true ∧ chk x N sc a ea = true ∧ chk x N sc b eb = true := by
  cases e <;> first | (cases h; done) | skip
  rename_i ea os es pos
  rcases os with _ | ⟨o, _ | ⟨o2, r⟩⟩ <;> rcases es with _ | ⟨eb, _ | ⟨ec, r2⟩⟩ <;> first | (cases h; done) | skip
  · obtain ⟨h0, h3⟩ := and2 h
    obtain ⟨h1, h2, h4⟩ := and3 h0
    have e1 := of_decide_eq_true h1
    subst e1
    exact ⟨_, _, _, rfl, h2, h4, h3⟩
  all_goals (rcases r with _ | ⟨o3, r⟩ <;> rcases r2 with _ | ⟨e3, r2⟩ <;> cases h)
theorem i_chn {op op' : Cop} {a b c : M} (h : chk x N sc (.chn op op' a b c) e = true) : ∃ ea eb ec p, e = .Compare ea [copOf op, copOf op'] [eb, ec] p ∧ plainA ec = true ∧ chk x N sc a ea = true ∧ chk x N sc b eb = true ∧ chk x N sc c ec = true := by
  cases e <;> first | (cases h; done) | skip
  rename_i ea os es pos
  rcases os with _ | ⟨o, _ | ⟨o2, _ | ⟨o3, r⟩⟩⟩ <;> rcases es with _ | ⟨eb, _ | ⟨ec, _ | ⟨e3, r2⟩⟩⟩ <;> first | (cases h; done) | skip
  obtain ⟨h0, h5⟩ := and2 h
  obtain ⟨h0, h4⟩ := and2 h0
  obtain ⟨h0, h3⟩ := and2 h0
  obtain ⟨h1, h1', h2⟩ := and3 h0
  have e1 := of_decide_eq_true h1
  have e2 := of_decide_eq_true h1'
  subst e1 e2
  exact ⟨_, _, _, _, rfl, h2, h3, h4, h5⟩
theorem i_and {a b : M} (h : chk x N sc (.andd a b) e = true) : ∃ ea eb r p, e = .BoolOp .And (ea :: eb :: r) p ∧ chk x N sc a ea = true ∧ ((r = [] ∧ chk x N sc b eb = true) ∨ chk x N sc b (.BoolOp .And (eb :: r) p) = true) := by
  cases e <;> first | (cases h; done) | skip
  rename_i op es p
  cases op <;> first | (cases h; done) | skip
  rcases es with _ | ⟨ea, _ | ⟨eb, _ | ⟨ec, r⟩⟩⟩ <;> first | (cases h; done) | skip
  · obtain ⟨h1, h2⟩ := and2 h
    exact ⟨_, _, _, _, rfl, h1, .inl ⟨rfl, h2⟩⟩
  · obtain ⟨h1, h2⟩ := and2 h
    exact ⟨_, _, _, _, rfl, h1, .inr h2⟩
theorem i_or {a b : M} (h : chk x N sc (.orr a b) e = true) : ∃ ea eb r p, e = .BoolOp .Or (ea :: eb :: r) p ∧ chk x N sc a ea = true ∧ ((r = [] ∧ chk x N sc b eb = true) ∨ chk x N sc b (.BoolOp .Or (eb :: r) p) = true) := by
  cases e <;> first | (cases h; done) | skip
  rename_i op es p
  cases op <;> first | (cases h; done) | skip
  rcases es with _ | ⟨ea, _ | ⟨eb, _ | ⟨ec, r⟩⟩⟩ <;> first | (cases h; done) | skip
  · obtain ⟨h1, h2⟩ := and2 h
    exact ⟨_, _, _, _, rfl, h1, .inl ⟨rfl, h2⟩⟩
  · obtain ⟨h1, h2⟩ := and2 h
    exact ⟨_, _, _, _, rfl, h1, .inr h2⟩
theorem i_not {a : M} (h : chk x N sc (.nott a) e = true) : ∃ ea p, e = .UnaryOp .Not ea p ∧ chk x N sc a ea = true := by
  cases e <;> first | (cases h; done) | skip
  rename_i op ea pos
  cases op <;> first | (cases h; done) | skip
  exact ⟨_, _, rfl, h⟩
theorem i_upp {a : M} (h : chk x N sc (.upp a) e = true) : ∃ ea ap p, e = .Call (.Attribute ea "upper" ap) [] [] p ∧ baseP ea = true ∧ (ap.endLine == p.line) = true ∧ chk x N sc a ea = true := by
  cases e <;> first | (cases h; done) | skip
  rename_i fn es ks pos
  cases fn <;> first | (cases h; done) | skip
  cases es <;> first | (cases h; done) | skip
  cases ks <;> first | (cases h; done) | skip
  obtain ⟨h0, h4⟩ := and2 h
  obtain ⟨h1, h2, h3⟩ := and3 h0
  have e1 := of_decide_eq_true h1
  subst e1
  exact ⟨_, _, _, rfl, h2, h3, h4⟩
theorem i_tup {l : Ms} (h : chk x N sc (.tup l) e = true) : ∃ es k p, e = .Tuple es k p ∧ chkL x N sc l es = true := by
  cases e <;> first | (cases h; done) | skip
  exact ⟨_, _, _, rfl, h⟩
theorem i_lst {l : Ms} (h : chk x N sc (.lst l) e = true) : ∃ es p, e = .List es p ∧ chkL x N sc l es = true := by
  cases e <;> first | (cases h; done) | skip
  exact ⟨_, _, rfl, h⟩
theorem i_idx {a b : M} (h : chk x N sc (.idx a b) e = true) : ∃ ea eb p, e = .Subscript ea eb p ∧ plainA eb = true ∧ chk x N sc a ea = true ∧ chk x N sc b eb = true := by
  cases e <;> first | (cases h; done) | skip
  obtain ⟨h1, h2, h3⟩ := and3 h
  exact ⟨_, _, _, rfl, h1, h2, h3⟩
theorem i_slc {a : M} {lo hi : Mo} (h : chk x N sc (.slc a lo hi) e = true) : ∃ ea el eh p2 p, e = .Subscript ea (.Slice el eh none p2) p ∧ chk x N sc a ea = true ∧ chkO x N sc lo el = true ∧ chkO x N sc hi eh = true := by
  cases e <;> first | (cases h; done) | skip
  rename_i ea sl p
  cases sl <;> first | (cases h; done) | skip
  rename_i el eh st p2
  cases st <;> first | (cases h; done) | skip
  obtain ⟨h1, h2, h3⟩ := and3 h
  exact ⟨_, _, _, _, _, rfl, h1, h2, h3⟩
theorem i_att {a : M} {f : Str} (h : chk x N sc (.att a f) e = true) : ∃ ea p, e = .Attribute ea f p ∧ baseP ea = true ∧ chk x N sc a ea = true := by
  cases e <;> first | (cases h; done) | skip
  obtain ⟨h1, h2, h3⟩ := and3 h
  have e1 := of_decide_eq_true h1
  subst e1
  exact ⟨_, _, rfl, h2, h3⟩
theorem i_call {f : Nat} {l : Ms} (h : chk x N sc (.call f l) e = true) : ∃ y p es pos, e = .Call (.Name y p) es [] pos ∧ x.fnN f = some y ∧ glB sc y = true ∧ dbgOk y = true ∧ chkL x N sc l es = true := by
  cases e <;> first | (cases h; done) | skip
  rename_i fn es ks pos
  cases fn <;> first | (cases h; done) | skip
  cases ks <;> first | (cases h; done) | skip
  obtain ⟨h0, h4⟩ := and2 h
  obtain ⟨h1, h2, h3⟩ := and3 h0
  exact ⟨_, _, _, _, rfl, of_decide_eq_true h1, h2, h3, h4⟩
theorem i_mk {c : Nat} {l : Ms} (h : chk x N sc (.mk c l) e = true) : ∃ y p es pos, e = .Call (.Name y p) es [] pos ∧ x.clN c = some y ∧ glB sc y = true ∧ dbgOk y = true ∧ chkL x N sc l es = true := by
  cases e <;> first | (cases h; done) | skip
  rename_i fn es ks pos
  cases fn <;> first | (cases h; done) | skip
  cases ks <;> first | (cases h; done) | skip
  obtain ⟨h0, h4⟩ := and2 h
  obtain ⟨h1, h2, h3⟩ := and3 h0
  exact ⟨_, _, _, _, rfl, of_decide_eq_true h1, h2, h3, h4⟩
theorem chkK_some : ∀ {l : Kvs} {ks : List (Option Expr)} {vs : List Expr}, chkK x N sc l ks vs = true → ks.all (·.isSome) = true ∧ ks.length = vs.length ∧ l.len = ks.length
  | .nil, [], [], _ => ⟨rfl, rfl, rfl⟩
  | .cons k v l, some ek :: ks, ev :: vs, h => by
    obtain ⟨_, _, h3⟩ := and3 h
    obtain ⟨a, b, c⟩ := chkK_some h3
    exact ⟨by rw [List.all_cons, a]; rfl, congrArg (· + 1) b, congrArg (· + 1) c⟩
  | .nil, [], _ :: _, h => by cases h
  | .nil, _ :: _, _, h => by cases h
  | .cons _ _ _, [], _, h => by cases h
  | .cons _ _ _, none :: _, _, h => by cases h
  | .cons _ _ _, some _ :: _, [], h => by cases h
theorem i_dct {l : Kvs} (h : chk x N sc (.dct l) e = true) : ∃ ks vs p, e = .Dict ks vs p ∧ chkK x N sc l ks vs = true ∧ ks.length ≤ 15 := by
  cases e <;> first | (cases h; done) | skip
  obtain ⟨h1, h2⟩ := and2 h
  exact ⟨_, _, _, rfl, h1, of_decide_eq_true h2⟩
theorem i_dc {ws : List Nat} {k v : M} {p : Pat} {it : It} {cs : Ts} (h : chk x N sc (.dc ws k v p it cs) e = true) : ∃ ek ev tg iter ifs scope pos, e = .DictComp ek ev [⟨tg, iter, ifs, 0⟩] scope pos ∧ blkC N sc scope (ownL N ws) = true ∧ chkP N scope p tg = true ∧ plainA iter = true ∧ chkI x N sc it iter = true ∧ chkTs x N (relS scope sc) cs ifs = true ∧ chk x N (relS scope sc) k ek = true ∧ chk x N (relS scope sc) v ev = true := by
  cases e <;> first | (cases h; done) | skip
  rename_i ek ev gs scope pos
  rcases gs with _ | ⟨⟨tg, iter, ifs, k⟩, r⟩
  · cases h
  rcases k with ⟨_ | n⟩ | n <;> rcases r with _ | ⟨g2, r⟩ <;> first | (cases h; done) | skip
  obtain ⟨h0, h7⟩ := and2 h
  obtain ⟨h0, h6⟩ := and2 h0
  obtain ⟨h0, h5⟩ := and2 h0
  obtain ⟨h0, h4⟩ := and2 h0
  obtain ⟨h1, h2, h3⟩ := and3 h0
  exact ⟨_, _, _, _, _, _, _, rfl, h1, h2, h3, h4, h5, h6, h7⟩
theorem i_bm {b : Bmt} {o : M} {l : Ms} (h : chk x N sc (.bm b o l) e = true) : ∃ eo ap ea es pos, e = .Call (.Attribute eo (bmN b) ap) (ea :: es) [] pos ∧ bmDone b = true ∧ baseP eo = true ∧ (ea :: es).length < 30 ∧ (ap.endLine == pos.line) = true ∧ chk x N sc o eo = true ∧ chkL x N sc l (ea :: es) = true := by
  cases e <;> first | (cases h; done) | skip
  rename_i fn es ks pos
  cases fn <;> first | (cases h; done) | skip
  cases es <;> first | (cases h; done) | skip
  cases ks <;> first | (cases h; done) | skip
  obtain ⟨h0, h7⟩ := and2 h
  obtain ⟨h0, h6⟩ := and2 h0
  obtain ⟨h0, h5⟩ := and2 h0
  obtain ⟨h0, h4⟩ := and2 h0
  obtain ⟨h1, h2, h3⟩ := and3 h0
  have e1 := of_decide_eq_true h1
  subst e1
  exact ⟨_, _, _, _, _, rfl, h2, h3, of_decide_eq_true h4, h5, h6, h7⟩
theorem i_mth {o : M} {m : Str} {l : Ms} (h : chk x N sc (.mth o m l) e = true) : ∃ eo ap es pos, e = .Call (.Attribute eo m ap) es [] pos ∧ baseP eo = true ∧ es.length < 30 ∧ (ap.endLine == pos.line) = true ∧ chk x N sc o eo = true ∧ chkL x N sc l es = true := by
  cases e <;> first | (cases h; done) | skip
  rename_i fn es ks pos
  cases fn <;> first | (cases h; done) | skip
  cases ks <;> first | (cases h; done) | skip
  obtain ⟨h0, h6⟩ := and2 h
  obtain ⟨h0, h5⟩ := and2 h0
  obtain ⟨h0, h4⟩ := and2 h0
  obtain ⟨h1, h2, h3⟩ := and3 h0
  have e1 := of_decide_eq_true h1
  subst e1
  exact ⟨_, _, _, _, rfl, h2, of_decide_eq_true h3, h4, h5, h6⟩
theorem i_blt {b : Blt} {l : Ms} (h : chk x N sc (.blt b l) e = true) : ∃ y p ea es pos, e = .Call (.Name y p) (ea :: es) [] pos ∧ glo1 x sc y (bltN b) = true ∧ chkL x N sc l (ea :: es) = true := by
  cases e <;> first | (cases h; done) | skip
  rename_i fn es ks pos
  cases fn <;> first | (cases h; done) | skip
  cases es <;> first | (cases h; done) | skip
  cases ks <;> first | (cases h; done) | skip
  obtain ⟨h1, h2⟩ := and2 h
  exact ⟨_, _, _, _, _, rfl, h1, h2⟩
theorem i_isi {a : M} {t : Ty} (h : chk x N sc (.isi a t) e = true) : ∃ y p ea z pz pos, e = .Call (.Name y p) [ea, .Name z pz] [] pos ∧ glo1 x sc y "isinstance" = true ∧ plainA ea = true ∧ chk x N sc a ea = true ∧ tyN x t = some z ∧ glB sc z = true ∧ dbgOk z = true ∧ tyFree x t = true := by
  cases e <;> first | (cases h; done) | skip
  rename_i fn es ks pos
  cases fn <;> first | (cases h; done) | skip
  rcases es with _ | ⟨ea, _ | ⟨eb, _ | ⟨ec, r⟩⟩⟩ <;> first | (cases h; done) | (cases eb <;> cases h; done) | skip
  cases eb <;> first | (cases h; done) | skip
  cases ks <;> first | (cases h; done) | skip
  obtain ⟨h0, h7⟩ := and2 h
  obtain ⟨h0, h6⟩ := and2 h0
  obtain ⟨h0, h5⟩ := and2 h0
  obtain ⟨h0, h4⟩ := and2 h0
  obtain ⟨h1, h2, h3⟩ := and3 h0
  exact ⟨_, _, _, _, _, _, rfl, h1, h2, h3, of_decide_eq_true h4, h5, h6, h7⟩
theorem i_lrng1 {a : M} (h : chk x N sc (.lrng (.rng a)) e = true) : ∃ y p z pz ea p3 pos, e = .Call (.Name y p) [.Call (.Name z pz) [ea] [] p3] [] pos ∧ glo1 x sc y "list" = true ∧ glo1 x sc z "range" = true ∧ plainA ea = true ∧ chk x N sc a ea = true := by
  cases e <;> first | (cases h; done) | skip
  rename_i fn es ks pos
  cases fn <;> first | (cases h; done) | skip
  rcases es with _ | ⟨eb, _ | ⟨ec, r⟩⟩ <;> first | (cases h; done) | skip
  · cases eb <;> first | (cases h; done) | skip
    rename_i fn2 es2 ks2 pos2
    cases fn2 <;> first | (cases h; done) | skip
    rcases es2 with _ | ⟨eb, _ | ⟨ec, r⟩⟩ <;> first | (cases h; done) | (cases ks2 <;> cases h; done) | skip
    cases ks2 <;> first | (cases h; done) | skip
    cases ks <;> first | (cases h; done) | skip
    obtain ⟨h0, h4⟩ := and2 h
    obtain ⟨h1, h2, h3⟩ := and3 h0
    exact ⟨_, _, _, _, _, _, _, rfl, h1, h2, h3, h4⟩
  · cases eb <;> first | (cases h; done) | skip
    rename_i fn2 es2 ks2 pos2
    cases fn2 <;> first | (cases h; done) | skip
    rcases es2 with _ | ⟨eb, _ | ⟨ec, r⟩⟩ <;> first | (cases h; done) | (cases ks2 <;> cases h; done)
theorem i_lrng2 {a b : M} (h : chk x N sc (.lrng (.rng2 a b)) e = true) : ∃ y p z pz ea eb p3 pos, e = .Call (.Name y p) [.Call (.Name z pz) [ea, eb] [] p3] [] pos ∧ glo1 x sc y "list" = true ∧ glo1 x sc z "range" = true ∧ plainA ea = true ∧ plainA eb = true ∧ chk x N sc a ea = true ∧ chk x N sc b eb = true := by
  cases e <;> first | (cases h; done) | skip
  rename_i fn es ks pos
  cases fn <;> first | (cases h; done) | skip
  rcases es with _ | ⟨eb, _ | ⟨ec, r⟩⟩ <;> first | (cases h; done) | skip
  · cases eb <;> first | (cases h; done) | skip
    rename_i fn2 es2 ks2 pos2
    cases fn2 <;> first | (cases h; done) | skip
    rcases es2 with _ | ⟨eb, _ | ⟨ec, _ | ⟨e3, r⟩⟩⟩ <;> first | (cases h; done) | (cases ks2 <;> cases h; done) | skip
    cases ks2 <;> first | (cases h; done) | skip
    cases ks <;> first | (cases h; done) | skip
    obtain ⟨h0, h6⟩ := and2 h
    obtain ⟨h0, h5⟩ := and2 h0
    obtain ⟨h0, h4⟩ := and2 h0
    obtain ⟨h1, h2, h3⟩ := and3 h0
    exact ⟨_, _, _, _, _, _, _, _, rfl, h1, h2, h3, h4, h5, h6⟩
  · cases eb <;> first | (cases h; done) | skip
    rename_i fn2 es2 ks2 pos2
    cases fn2 <;> first | (cases h; done) | skip
    rcases es2 with _ | ⟨eb, _ | ⟨ec, _ | ⟨e3, r⟩⟩⟩ <;> first | (cases h; done) | (cases ks2 <;> cases h; done)
theorem i_lcR {ws : List Nat} {elt : M} {p : Pat} {m : M} {cs : Ts} (h : chk x N sc (.lcR ws elt p m cs) e = true) : ∃ ee tg iter ifs scope pos, e = .ListComp ee [⟨tg, iter, ifs, 0⟩] scope pos ∧ blkC N sc scope (ownL N ws) = true ∧ chkP N scope p tg = true ∧ plainA iter = true ∧ chk x N sc m iter = true ∧ chkTs x N (relS scope sc) cs ifs = true ∧ chk x N (relS scope sc) elt ee = true := by
  cases e <;> first | (cases h; done) | skip
  rename_i ee gs scope pos
  rcases gs with _ | ⟨⟨tg, iter, ifs, k⟩, r⟩
  · cases h
  rcases k with ⟨_ | n⟩ | n <;> rcases r with _ | ⟨g2, r⟩ <;> first | (cases h; done) | skip
  obtain ⟨h0, h6⟩ := and2 h
  obtain ⟨h0, h5⟩ := and2 h0
  obtain ⟨h0, h4⟩ := and2 h0
  obtain ⟨h1, h2, h3⟩ := and3 h0
  exact ⟨_, _, _, _, _, _, rfl, h1, h2, h3, h4, h5, h6⟩
theorem i_srt {m : M} (h : chk x N sc (.srt .str m) e = true) : ∃ y p ea z p2 kp pos, e = .Call (.Name y p) [ea] [⟨some "key", .Name z p2, kp⟩] pos ∧ glo1 x sc y "sorted" = true ∧ glo1 x sc z "str" = true ∧ plainA ea = true ∧ chk x N sc m ea = true := by
  cases e <;> first | (cases h; done) | skip
  rename_i fn es ks pos
  cases fn <;> first | (cases h; done) | skip
  rcases es with _ | ⟨ea, _ | ⟨eb, r⟩⟩ <;> first | (cases h; done) | skip
  rcases ks with _ | ⟨⟨k, kv, kp⟩, _ | ⟨k2, r⟩⟩ <;> first | (cases h; done) | (cases k <;> first | (cases h; done) | (cases kv <;> cases h; done)) | skip
  cases k <;> first | (cases h; done) | skip
  cases kv <;> first | (cases h; done) | skip
  obtain ⟨h0, h5⟩ := and2 h
  obtain ⟨h0, h4⟩ := and2 h0
  obtain ⟨h1, h2, h3⟩ := and3 h0
  have e1 := of_decide_eq_true h1
  subst e1
  exact ⟨_, _, _, _, _, _, _, rfl, h2, h3, h4, h5⟩
theorem i_join {o m : M} (h : chk x N sc (.join o m) e = true) : ∃ eo ap ea pos, e = .Call (.Attribute eo "join" ap) [ea] [] pos ∧ baseP eo = true ∧ plainA ea = true ∧ (ap.endLine == pos.line) = true ∧ chk x N sc o eo = true ∧ chk x N sc m ea = true := by
  cases e <;> first | (cases h; done) | skip
  rename_i fn es ks pos
  cases fn <;> first | (cases h; done) | skip
  rcases es with _ | ⟨ea, _ | ⟨eb, r⟩⟩ <;> first | (cases h; done) | skip
  cases ks <;> first | (cases h; done) | skip
  obtain ⟨h0, h6⟩ := and2 h
  obtain ⟨h0, h5⟩ := and2 h0
  obtain ⟨h0, h4⟩ := and2 h0
  obtain ⟨h1, h2, h3⟩ := and3 h0
  have e1 := of_decide_eq_true h1
  subst e1
  exact ⟨_, _, _, _, rfl, h2, h3, h4, h5, h6⟩
theorem i_slen {ws : List Nat} {i : Nat} {m : M} (h : chk x N sc (.slen ws i m) e = true) : ∃ y p z1 q1 z2 q2 iter scope cp pos, e = .Call (.Name y p) [.SetComp (.Name z1 q1) [⟨.Name z2 q2, iter, [], 0⟩] scope cp] [] pos ∧ glo1 x sc y "len" = true ∧ blkC N sc scope (ownL N ws) = true ∧ N[i]? = some z2 ∧ locB scope z2 = true ∧ N[i]? = some z1 ∧ visB (relS scope sc) z1 = true ∧ dbgOk z1 = true ∧ plainA iter = true ∧ chk x N sc m iter = true := by
  cases e <;> first | (cases h; done) | skip
  rename_i fn es ks pos
  cases fn <;> first | (cases h; done) | skip
  rcases es with _ | ⟨ea, _ | ⟨eb, r⟩⟩ <;> first | (cases h; done) | skip
  · cases ea <;> first | (cases h; done) | skip
    rename_i elt gs scope cp
    cases elt <;> first | (cases h; done) | skip
    rcases gs with _ | ⟨⟨tg, iter, ifs, k⟩, r⟩
    · cases h
    cases tg <;> first | (cases h; done) | (rcases ifs with _ | ⟨i1, i2⟩ <;> rcases k with ⟨_ | n⟩ | n <;> rcases r with _ | ⟨g2, r⟩ <;> cases h; done) | skip
    rcases ifs with _ | ⟨i1, i2⟩ <;> rcases k with ⟨_ | n⟩ | n <;> rcases r with _ | ⟨g2, r⟩ <;> cases ks <;> first | (cases h; done) | skip
    obtain ⟨h0, h9⟩ := and2 h
    obtain ⟨h0, h8⟩ := and2 h0
    obtain ⟨h0, h7⟩ := and2 h0
    obtain ⟨h0, h6⟩ := and2 h0
    obtain ⟨h0, h5⟩ := and2 h0
    obtain ⟨h0, h4⟩ := and2 h0
    obtain ⟨h1, h2, h3⟩ := and3 h0
    exact ⟨_, _, _, _, _, _, _, _, _, _, rfl, h1, h2, of_decide_eq_true h3, h4, of_decide_eq_true h5, h6, h7, h8, h9⟩
  · cases ea <;> first | (cases h; done) | skip
    rename_i elt gs scope cp
    cases elt <;> first | (cases h; done) | skip
    rcases gs with _ | ⟨⟨tg, iter, ifs, k⟩, r⟩
    · cases h
    cases tg <;> first | (cases h; done) | skip
    rcases ifs with _ | ⟨i1, i2⟩ <;> rcases k with ⟨_ | n⟩ | n <;> rcases r with _ | ⟨g2, r⟩ <;> cases h
theorem i_cmpV {op : Cop} {a b : M} (h : chk x N sc (.cmpV op a b) e = true) : ∃ ea eb p, e = .Compare ea [copOf op] [eb] p ∧ plainA eb = true ∧ chk x N sc a ea = true ∧ chk x N sc b eb = true := by
  cases e <;> first | (cases h; done) | skip
  rename_i ea os es pos
  rcases os with _ | ⟨o, _ | ⟨o2, r⟩⟩ <;> rcases es with _ | ⟨eb, _ | ⟨ec, r2⟩⟩ <;> first | (cases h; done) | skip
  obtain ⟨h0, h3⟩ := and2 h
  obtain ⟨h1, h2, h4⟩ := and3 h0
  have e1 := of_decide_eq_true h1
  subst e1
  exact ⟨_, _, _, rfl, h2, h4, h3⟩
theorem i_lc {ws : List Nat} {elt : M} {p : Pat} {it : It} {cs : Ts} (h : chk x N sc (.lc ws elt p it cs) e = true) : ∃ ee tg iter ifs scope pos, e = .ListComp ee [⟨tg, iter, ifs, 0⟩] scope pos ∧ blkC N sc scope (ownL N ws) = true ∧ chkP N scope p tg = true ∧ plainA iter = true ∧ chkI x N sc it iter = true ∧ chkTs x N (relS scope sc) cs ifs = true ∧ chk x N (relS scope sc) elt ee = true := by
  cases e <;> first | (cases h; done) | skip
  rename_i ee gs scope pos
  rcases gs with _ | ⟨⟨tg, iter, ifs, k⟩, r⟩
  · cases h
  rcases k with ⟨_ | n⟩ | n <;> rcases r with _ | ⟨g2, r⟩ <;> first | (cases h; done) | skip
  obtain ⟨h0, h6⟩ := and2 h
  obtain ⟨h0, h5⟩ := and2 h0
  obtain ⟨h0, h4⟩ := and2 h0
  obtain ⟨h1, h2, h3⟩ := and3 h0
  exact ⟨_, _, _, _, _, _, rfl, h1, h2, h3, h4, h5, h6⟩
end
end
end MP

set_option maxRecDepth 100000
set_option maxHeartbeats 1000000
/-! MP19: every checked expression computes what the small language says. -/
namespace MP
open PySem PySem.Spec PyProof.Rows L2

section
variable {tb : Tb} {Φ : Nat → List D → MH → R D} {x : Tx} {N : List Str} {j : Nat}
section
variable {sc : Scope} {e : Expr}
theorem i_Irng {a : M} (h : chkI x N sc (.rng a) e = true) : ∃ z pz ea pos, e = .Call (.Name z pz) [ea] [] pos ∧ glo1 x sc z "range" = true ∧ plainA ea = true ∧ chk x N sc a ea = true := by
  cases e <;> first | (cases h; done) | skip
  rename_i fn es ks pos
  cases fn <;> first | (cases h; done) | skip
  rcases es with _ | ⟨ea, _ | ⟨eb, r⟩⟩ <;> first | (cases h; done) | (cases ks <;> cases h; done) | skip
  cases ks <;> first | (cases h; done) | skip
  obtain ⟨h1, h2, h3⟩ := and3 h
  exact ⟨_, _, _, _, rfl, h1, h2, h3⟩
theorem i_Irng2 {a b : M} (h : chkI x N sc (.rng2 a b) e = true) : ∃ z pz ea eb pos, e = .Call (.Name z pz) [ea, eb] [] pos ∧ glo1 x sc z "range" = true ∧ plainA ea = true ∧ plainA eb = true ∧ chk x N sc a ea = true ∧ chk x N sc b eb = true := by
  cases e <;> first | (cases h; done) | skip
  rename_i fn es ks pos
  cases fn <;> first | (cases h; done) | skip
  rcases es with _ | ⟨ea, _ | ⟨eb, _ | ⟨ec, r⟩⟩⟩ <;> first | (cases h; done) | (cases ks <;> cases h; done) | skip
  cases ks <;> first | (cases h; done) | skip
  obtain ⟨h0, h5⟩ := and2 h
  obtain ⟨h0, h4⟩ := and2 h0
  obtain ⟨h1, h2, h3⟩ := and3 h0
  exact ⟨_, _, _, _, _, rfl, h1, h2, h3, h4, h5⟩
theorem i_Tand {a b : T} (h : chkT x N sc (.and a b) e = true) : ∃ ea eb r p, e = .BoolOp .And (ea :: eb :: r) p ∧ chkT x N sc a ea = true ∧ ((r = [] ∧ chkT x N sc b eb = true) ∨ chkT x N sc b (.BoolOp .And (eb :: r) p) = true) := by
  cases e <;> first | (cases h; done) | skip
  rename_i op es p
  cases op <;> first | (cases h; done) | skip
  rcases es with _ | ⟨ea, _ | ⟨eb, _ | ⟨ec, r⟩⟩⟩ <;> first | (cases h; done) | skip
  · obtain ⟨h1, h2⟩ := and2 h
    exact ⟨_, _, _, _, rfl, h1, .inl ⟨rfl, h2⟩⟩
  · obtain ⟨h1, h2⟩ := and2 h
    exact ⟨_, _, _, _, rfl, h1, .inr h2⟩
theorem i_Tor {a b : T} (h : chkT x N sc (.or a b) e = true) : ∃ ea eb r p, e = .BoolOp .Or (ea :: eb :: r) p ∧ chkT x N sc a ea = true ∧ ((r = [] ∧ chkT x N sc b eb = true) ∨ chkT x N sc b (.BoolOp .Or (eb :: r) p) = true) := by
  cases e <;> first | (cases h; done) | skip
  rename_i op es p
  cases op <;> first | (cases h; done) | skip
  rcases es with _ | ⟨ea, _ | ⟨eb, _ | ⟨ec, r⟩⟩⟩ <;> first | (cases h; done) | skip
  · obtain ⟨h1, h2⟩ := and2 h
    exact ⟨_, _, _, _, rfl, h1, .inl ⟨rfl, h2⟩⟩
  · obtain ⟨h1, h2⟩ := and2 h
    exact ⟨_, _, _, _, rfl, h1, .inr h2⟩
theorem i_Tnot {a : T} (h : chkT x N sc (.not a) e = true) : ∃ ea p, e = .UnaryOp .Not ea p ∧ chkT x N sc a ea = true := by
  cases e <;> first | (cases h; done) | skip
  rename_i op ea pos
  cases op <;> first | (cases h; done) | skip
  exact ⟨_, _, rfl, h⟩
end
/-- an expression's two readings -/
def PV (tb : Tb) (Φ : Nat → List D → MH → R D) (x : Tx) (X : Cx) (S : SC) (m : M) (e : Expr) : Prop := PE X e (tE tb Φ S m) ∧ (isCmp m = true → PT X e (tT tb Φ S (.v m))) ∧ (isF x m = true → PE X e (tF tb Φ S m))
theorem PV.fresh {tb : Tb} {Φ : Nat → List D → MH → R D} {x : Tx} {X : Cx} {S : SC} {m : M} {e : Expr} (hc : isCmp m = false) (h : PE X e (tF tb Φ S m)) : PV tb Φ x X S m e := ⟨PE.ofF h, (fun z => absurd z (by rw [hc]; decide)), fun _ => h⟩
variable (np : ∀ f ds h d h', Φ f ds h = R.ok d h' → ds.length = (x.fps f).length)
include np
mutual
theorem pe_ok : ∀ (m : M) (X : Cx) (S : SC) (e : Expr) (sc : Scope), Gd tb Φ x N j S X → X.env.scope = sc → chk x N sc m e = true → PV tb Φ x X S m e
  | .var i, X, S, e, sc, G, hs, h => by
    obtain ⟨y, p, rfl, h1, h2, h3⟩ := i_var h
    exact ⟨e_var' G hs h1 h2 h3, (fun z => nomatch z), (fun z => nomatch z)⟩
  | .cst d, X, S, e, sc, G, hs, h => by
    obtain ⟨c, k, p, rfl, h1⟩ := i_cst h
    exact ⟨e_cst h1, (fun z => nomatch z), (fun z => nomatch z)⟩
  | .glo g, X, S, e, sc, G, hs, h => by
    obtain ⟨y, p, rfl, h1, h2, h3⟩ := i_glo h
    exact ⟨e_glo G hs h1 h2 h3, (fun z => nomatch z), (fun z => nomatch z)⟩
  | .bin op a b, X, S, e, sc, G, hs, h => by
    obtain ⟨ea, eb, p, rfl, h2, h3⟩ := i_bin h
    exact ⟨e_bin G (po_of G hs h2 (pe_ok a X S ea sc G hs h2).1) (po_of G hs h3 (pe_ok b X S eb sc G hs h3).1), (fun z => nomatch z), (fun z => nomatch z)⟩
  | .neg a, X, S, e, sc, G, hs, h => by
    obtain ⟨ea, p, rfl, h2⟩ := i_neg h
    exact ⟨e_neg (pe_ok a X S ea sc G hs h2).1, (fun z => nomatch z), (fun z => nomatch z)⟩
  | .cmp op a b, X, S, e, sc, G, hs, h => by
    obtain ⟨ea, eb, p, rfl, h1, h2, h3⟩ := i_cmp h
    exact ⟨e_cmp G (po_of G hs h2 (pe_ok a X S ea sc G hs h2).1) (po_of G hs h3 (pe_ok b X S eb sc G hs h3).1) h1, (fun _ => t_cmp G (po_of G hs h2 (pe_ok a X S ea sc G hs h2).1) (po_of G hs h3 (pe_ok b X S eb sc G hs h3).1) h1), (fun z => nomatch z)⟩
  | .chn op op' a b c, X, S, e, sc, G, hs, h => by
    obtain ⟨ea, eb, ec, p, rfl, h1, h2, h3, h4⟩ := i_chn h
    exact ⟨e_chn G (po_of G hs h2 (pe_ok a X S ea sc G hs h2).1) (po_of G hs h3 (pe_ok b X S eb sc G hs h3).1) (po_of G hs h4 (pe_ok c X S ec sc G hs h4).1) h1, (fun _ => t_chn G (po_of G hs h2 (pe_ok a X S ea sc G hs h2).1) (po_of G hs h3 (pe_ok b X S eb sc G hs h3).1) (po_of G hs h4 (pe_ok c X S ec sc G hs h4).1) h1), (fun z => nomatch z)⟩
  | .andd a b, X, S, e, sc, G, hs, h => by
    obtain ⟨ea, eb, r, p, rfl, h1, h2⟩ := i_and h
    rcases h2 with ⟨rfl, h2⟩ | h2
    · exact ⟨e_and (pe_ok a X S ea sc G hs h1).1 (pe_one (pe_ok b X S eb sc G hs h2).1), (fun z => nomatch z), (fun z => nomatch z)⟩
    · exact ⟨e_and (pe_ok a X S ea sc G hs h1).1 (pe_ok b X S _ sc G hs h2).1, (fun z => nomatch z), (fun z => nomatch z)⟩
  | .orr a b, X, S, e, sc, G, hs, h => by
    obtain ⟨ea, eb, r, p, rfl, h1, h2⟩ := i_or h
    rcases h2 with ⟨rfl, h2⟩ | h2
    · exact ⟨e_or (pe_ok a X S ea sc G hs h1).1 (pe_one (pe_ok b X S eb sc G hs h2).1), (fun z => nomatch z), (fun z => nomatch z)⟩
    · exact ⟨e_or (pe_ok a X S ea sc G hs h1).1 (pe_ok b X S _ sc G hs h2).1, (fun z => nomatch z), (fun z => nomatch z)⟩
  | .nott a, X, S, e, sc, G, hs, h => by
    obtain ⟨ea, p, rfl, h2⟩ := i_not h
    exact ⟨e_not (pe_ok a X S ea sc G hs h2).1, (fun z => nomatch z), (fun z => nomatch z)⟩
  | .tup l, X, S, e, sc, G, hs, h => by
    obtain ⟨es, k, p, rfl, h2⟩ := i_tup h
    exact ⟨e_tup (pa_ok l X S es sc G hs h2), (fun z => nomatch z), (fun z => nomatch z)⟩
  | .lst l, X, S, e, sc, G, hs, h => by
    obtain ⟨es, p, rfl, h2⟩ := i_lst h
    exact PV.fresh rfl (e_lstF (pa_ok l X S es sc G hs h2))
  | .dct l, X, S, e, sc, G, hs, h => by
    obtain ⟨ks, vs, p, rfl, h1, h2⟩ := i_dct h
    obtain ⟨a1, a2, a3⟩ := chkK_some h1
    by_cases hk : ks = []
    · subst hk
      cases vs with
      | cons _ _ => cases a2
      | nil => cases l with
        | nil => exact PV.fresh rfl e_dct0F
        | cons _ _ _ => cases a3
    · exact PV.fresh rfl (e_dctF (pk_ok l X S ks vs sc p G hs h1) a1 a2 hk h2 a3)
  | .idx a b, X, S, e, sc, G, hs, h => by
    obtain ⟨ea, eb, p, rfl, h1, h2, h3⟩ := i_idx h
    exact ⟨e_idx G np (po_of G hs h2 (pe_ok a X S ea sc G hs h2).1) (pe_ok b X S eb sc G hs h3).1 h1, (fun z => nomatch z), (fun z => nomatch z)⟩
  | .slc a lo hi, X, S, e, sc, G, hs, h => by
    obtain ⟨ea, el, eh, p2, p, rfl, h1, h2, h3⟩ := i_slc h
    exact ⟨e_slc G (po_of G hs h1 (pe_ok a X S ea sc G hs h1).1) (pmo_ok lo X S el sc G hs h2) (pmo_ok hi X S eh sc G hs h3), (fun z => nomatch z), (fun z => nomatch z)⟩
  | .rev a, X, S, e, sc, G, hs, h => by cases e <;> cases h
  | .att a f, X, S, e, sc, G, hs, h => by
    obtain ⟨ea, p, rfl, h1, h2⟩ := i_att h
    exact ⟨e_att G (pe_ok a X S ea sc G hs h2).1 h1, (fun z => nomatch z), (fun z => nomatch z)⟩
  | .call f l, X, S, e, sc, G, hs, h => by
    obtain ⟨y, p, es, pos, rfl, h1, h2, h3, h4⟩ := i_call h
    have pa := pa_ok l X S es sc G hs h4
    have pz : es = [] → l = .nil := fun z => by subst z; cases l <;> first | rfl | cases h4
    exact ⟨e_call G np hs h1 h2 h3 pa pz (chkL_plain h4), (fun z => nomatch z), fun z => e_callF G np hs h1 h2 h3 pa pz (chkL_plain h4) z⟩
  | .mk c l, X, S, e, sc, G, hs, h => by
    obtain ⟨y, p, es, pos, rfl, h1, h2, h3, h4⟩ := i_mk h
    exact ⟨e_mk G np hs h1 h2 h3 (pa_ok l X S es sc G hs h4) (fun z => by subst z; cases l <;> first | rfl | cases h4) (chkL_plain h4), (fun z => nomatch z), (fun z => nomatch z)⟩
  | .mth o m l, X, S, e, sc, G, hs, h => by
    obtain ⟨eo, ap, es, pos, rfl, h1, h2, h3, h4, h5⟩ := i_mth h
    exact ⟨e_mth G np (pe_ok o X S eo sc G hs h4).1 (pa_ok l X S es sc G hs h5) (fun z => by subst z; cases l <;> first | rfl | cases h5) h1 (chkL_plain h5) h2 h3, (fun z => nomatch z), (fun z => nomatch z)⟩
  | .blt b l, X, S, e, sc, G, hs, h => by
    obtain ⟨y, p, ea, es, pos, rfl, h1, h2⟩ := i_blt h
    have pa := pao_ok l X S _ sc G hs h2
    exact ⟨e_blt G hs h1 pa (chkL_plain h2), (fun z => nomatch z), fun z => e_bltF G hs h1 pa (chkL_plain h2) z⟩
  | .bm b o l, X, S, e, sc, G, hs, h => by
    obtain ⟨eo, ap, ea, es, pos, rfl, h1, h2, h3, h4, h5, h6⟩ := i_bm h
    exact ⟨e_bm G (po_of G hs h5 (pe_ok o X S eo sc G hs h5).1) (pa_ok l X S _ sc G hs h6) h2 (chkL_plain h6) h3 h4 h1, (fun z => nomatch z), (fun z => nomatch z)⟩
  | .isi a t, X, S, e, sc, G, hs, h => by
    obtain ⟨y, p, ea, z, pz, pos, rfl, h1, h2, h3, h4, h5, h6, h7⟩ := i_isi h
    exact ⟨e_isi G hs h1 h2 (po_of G hs h3 (pe_ok a X S ea sc G hs h3).1) h4 h5 h6 h7, (fun z => nomatch z), (fun z => nomatch z)⟩
  | .lrng (.val m), X, S, e, sc, G, hs, h => by cases e <;> cases h
  | .lrng (.rng a), X, S, e, sc, G, hs, h => by
    obtain ⟨y, p, z, pz, ea, p3, pos, rfl, h1, h2, h3, h4⟩ := i_lrng1 h
    exact PV.fresh rfl (e_lrng1F G hs h1 h2 h3 (pe_ok a X S ea sc G hs h4).1)
  | .lrng (.rng2 a b), X, S, e, sc, G, hs, h => by
    obtain ⟨y, p, z, pz, ea, eb, p3, pos, rfl, h1, h2, h3, h4, h5, h6⟩ := i_lrng2 h
    exact PV.fresh rfl (e_lrng2F G hs h1 h2 h3 h4 (pe_ok a X S ea sc G hs h5).1 (pe_ok b X S eb sc G hs h6).1)
  | .lrng (.enum m), X, S, e, sc, G, hs, h => by cases e <;> cases h
  | .lrng (.zip a b), X, S, e, sc, G, hs, h => by cases e <;> cases h
  | .lc ws elt p it cs, X, S, e, sc, G, hs, h => by
    obtain ⟨ee, tg, iter, ifs, scope, pos, rfl, h1, h2, h3, h4, h5, h6⟩ := i_lc h
    have hK : S.C.K = X.K := by rw [G.C]
    refine PV.fresh rfl (e_lcF G (pi_ok it X S tg iter sc G hs h4) (blkOk_by (by rw [hs, G.nm]; exact h1)) (ownL_snd N ws) (fun s H C cl fp => ?_) (fun s H C cl fp => ?_) (fun s H C cl fp => ?_) h3)
    · exact g_pat hK G.calm (show X.N.Nodup by rw [G.nm]; exact G.nd) (fun y => blk_loc y) (show chkP X.N scope p tg = true by rw [G.nm]; exact h2)
    · exact PTs.ex fun S' hS => pts_ok cs _ S' ifs _ ((G.sc hS).blk s H scope _ fp) (show relS scope X.env.scope = relS scope sc by rw [hs]) h5
    · exact PE.ex fun S' hS => (pe_ok elt _ S' ee _ ((G.sc hS).blk s H scope _ fp) (show relS scope X.env.scope = relS scope sc by rw [hs]) h6).1
  | .lc2 ws ws1 elt p it cs p1 it1 cs1, X, S, e, sc, G, hs, h => by cases e <;> cases h
  | .dc ws k v p it cs, X, S, e, sc, G, hs, h => by
    obtain ⟨ek, ev, tg, iter, ifs, scope, pos, rfl, h1, h2, h3, h4, h5, h6, h7⟩ := i_dc h
    have hK : S.C.K = X.K := by rw [G.C]
    have hrel : relS scope X.env.scope = relS scope sc := by rw [hs]
    refine PV.fresh rfl (e_dcF G (pi_ok it X S tg iter sc G hs h4) (blkOk_by (by rw [hs, G.nm]; exact h1)) (ownL_snd N ws) (fun s H C cl fp => ?_) (fun s H C cl fp => ?_) (fun s H C cl fp => ?_) (fun s H C cl fp => ?_) h3)
    · exact g_pat hK G.calm (show X.N.Nodup by rw [G.nm]; exact G.nd) (fun y => blk_loc y) (show chkP X.N scope p tg = true by rw [G.nm]; exact h2)
    · exact PTs.ex fun S' hS => pts_ok cs _ S' ifs _ ((G.sc hS).blk s H scope _ fp) hrel h5
    · exact PE.ex fun S' hS => (pe_ok k _ S' ek _ ((G.sc hS).blk s H scope _ fp) hrel h6).1
    · exact PE.ex fun S' hS => (pe_ok v _ S' ev _ ((G.sc hS).blk s H scope _ fp) hrel h7).1
  | .upp a, X, S, e, sc, G, hs, h => by
    obtain ⟨ea, ap, p, rfl, h1, h2, h3⟩ := i_upp h
    exact ⟨e_upp (pe_ok a X S ea sc G hs h3).1 h1 h2, (fun z => nomatch z), (fun z => nomatch z)⟩
  | .srt .len m, X, S, e, sc, G, hs, h => by cases e <;> cases h
  | .srt .str m, X, S, e, sc, G, hs, h => by
    obtain ⟨y, p, ea, z, p2, kp, pos, rfl, h1, h2, h3, h4⟩ := i_srt h
    exact PV.fresh rfl (e_srtF G hs h1 h2 h3 (po_of G hs h4 (pe_ok m X S ea sc G hs h4).1))
  | .slen ws i m, X, S, e, sc, G, hs, h => by
    obtain ⟨y, p, z1, q1, z2, q2, iter, scope, cp, pos, rfl, h1, h2, h3, h4, h5, h6, h7, h8, h9⟩ := i_slen h
    have hK : S.C.K = X.K := by rw [G.C]
    refine ⟨e_slen G hs h1 (i_val G (po_of G hs h9 (pe_ok m X S iter sc G hs h9).1)) (blkOk_by (by rw [hs, G.nm]; exact h2)) (ownL_snd N ws) (fun s H C cl fp => ?_) (fun s H C cl fp => ?_) h8, (fun z => nomatch z), (fun z => nomatch z)⟩
    · exact g_pat hK G.calm (show X.N.Nodup by rw [G.nm]; exact G.nd) (fun y => blk_loc y) (show chkP X.N scope (.nm i) (.Name z2 q2) = true by rw [G.nm]; show (decide (N[i]? = some z2) && locB scope z2) = true; rw [decide_eq_true h3, h4]; rfl)
    · exact PE.ex fun S' hS => e_var' ((G.sc hS).blk s H scope _ fp) (show relS scope X.env.scope = relS scope sc by rw [hs]) h5 h6 h7
  | .join o m, X, S, e, sc, G, hs, h => by
    obtain ⟨eo, ap, ea, pos, rfl, h1, h2, h3, h4, h5⟩ := i_join h
    exact ⟨e_join G (pe_ok o X S eo sc G hs h4).1 (po_of G hs h5 (pe_ok m X S ea sc G hs h5).1) h1 h2 h3, (fun z => nomatch z), (fun z => nomatch z)⟩
  | .fmt2 a b, X, S, e, sc, G, hs, h => by cases e <;> cases h
  | .cmpO op a b, X, S, e, sc, G, hs, h => by cases e <;> cases h
  | .cmpV op a b, X, S, e, sc, G, hs, h => by
    obtain ⟨ea, eb, p, rfl, h1, h2, h3⟩ := i_cmpV h
    exact ⟨e_cmpV G (po_of G hs h2 (pe_ok a X S ea sc G hs h2).1) (po_of G hs h3 (pe_ok b X S eb sc G hs h3).1) h1, (fun _ => t_cmpV G (po_of G hs h2 (pe_ok a X S ea sc G hs h2).1) (po_of G hs h3 (pe_ok b X S eb sc G hs h3).1) h1), (fun z => nomatch z)⟩
  | .sh a, X, S, e, sc, G, hs, h => by
    obtain ⟨h1, h2⟩ := and2 h
    exact ⟨e_sh ((pe_ok a X S e sc G hs h2).2.2 h1), (fun z => nomatch z), (fun z => nomatch z)⟩
  | .mkS c l, X, S, e, sc, G, hs, h => by cases e <;> cases h
  | .lcR ws elt p m cs, X, S, e, sc, G, hs, h => by
    obtain ⟨ee, tg, iter, ifs, scope, pos, rfl, h1, h2, h3, h4, h5, h6⟩ := i_lcR h
    have hK : S.C.K = X.K := by rw [G.C]
    refine PV.fresh rfl (e_lcRF G (pe_ok m X S iter sc G hs h4).1 (blkOk_by (by rw [hs, G.nm]; exact h1)) (ownL_snd N ws) (fun s H C cl fp => ?_) (fun s H C cl fp => ?_) (fun s H C cl fp => ?_) h3)
    · exact g_pat hK G.calm (show X.N.Nodup by rw [G.nm]; exact G.nd) (fun y => blk_loc y) (show chkP X.N scope p tg = true by rw [G.nm]; exact h2)
    · exact PTs.ex fun S' hS => pts_ok cs _ S' ifs _ ((G.sc hS).blk s H scope _ fp) (show relS scope X.env.scope = relS scope sc by rw [hs]) h5
    · exact PE.ex fun S' hS => (pe_ok elt _ S' ee _ ((G.sc hS).blk s H scope _ fp) (show relS scope X.env.scope = relS scope sc by rw [hs]) h6).1
theorem pk_ok : ∀ (l : Kvs) (X : Cx) (S : SC) (ks : List (Option Expr)) (vs : List Expr) (sc : Scope) (pos : Pos), Gd tb Φ x N j S X → X.env.scope = sc → chkK x N sc l ks vs = true → PPs X pos ks vs (kvTrs tb Φ S.C l)
  | .nil, X, S, [], [], sc, pos, G, hs, h => pps_nil
  | .cons k v l, X, S, some ek :: ks, ev :: vs, sc, pos, G, hs, h => by
    obtain ⟨h1, h2, h3⟩ := and3 h
    exact pps_cons (PE.ex fun S' hS => (pe_ok k X S' ek sc (G.sc hS) hs h1).1) (PE.ex fun S' hS => (pe_ok v X S' ev sc (G.sc hS) hs h2).1) (pk_ok l X S ks vs sc pos G hs h3)
  | .nil, _, _, [], _ :: _, _, _, _, _, h => by cases h
  | .nil, _, _, _ :: _, _, _, _, _, _, h => by cases h
  | .cons _ _ _, _, _, [], _, _, _, _, _, h => by cases h
  | .cons _ _ _, _, _, none :: _, _, _, _, _, _, h => by cases h
  | .cons _ _ _, _, _, some _ :: _, [], _, _, _, _, h => by cases h
theorem pa_ok : ∀ (l : Ms) (X : Cx) (S : SC) (es : List Expr) (sc : Scope), Gd tb Φ x N j S X → X.env.scope = sc → chkL x N sc l es = true → PA X es (tEs tb Φ S l)
  | .nil, X, S, [], sc, G, hs, h => a_nil
  | .nil, X, S, _ :: _, sc, G, hs, h => by cases h
  | .cons m l, X, S, [], sc, G, hs, h => by cases h
  | .cons m l, X, S, e :: es, sc, G, hs, h => by
    obtain ⟨h1, h2, h3⟩ := and3 h
    exact a_cons (pe_ok m X S e sc G hs h2).1 (pa_ok l X S es sc G hs h3) h1
theorem pao_ok : ∀ (l : Ms) (X : Cx) (S : SC) (es : List Expr) (sc : Scope), Gd tb Φ x N j S X → X.env.scope = sc → chkL x N sc l es = true → PA X es (tOs tb Φ S l)
  | .nil, X, S, [], sc, G, hs, h => ao_nil
  | .nil, X, S, _ :: _, sc, G, hs, h => by cases h
  | .cons m l, X, S, [], sc, G, hs, h => by cases h
  | .cons m l, X, S, e :: es, sc, G, hs, h => by
    obtain ⟨h1, h2, h3⟩ := and3 h
    exact ao_cons (po_of G hs h2 (pe_ok m X S e sc G hs h2).1) (pao_ok l X S es sc G hs h3) h1
theorem pmo_ok : ∀ (o : Mo) (X : Cx) (S : SC) (e : Option Expr) (sc : Scope), Gd tb Φ x N j S X → X.env.scope = sc → chkO x N sc o e = true → PO X e (tMo tb Φ S o)
  | .no, X, S, none, sc, G, hs, h => o_no
  | .no, X, S, some _, sc, G, hs, h => by cases h
  | .so m, X, S, none, sc, G, hs, h => by cases h
  | .so m, X, S, some e, sc, G, hs, h => o_so (pe_ok m X S e sc G hs h).1
theorem pi_ok : ∀ (it : It) (X : Cx) (S : SC) (tg e : Expr) (sc : Scope), Gd tb Φ x N j S X → X.env.scope = sc → chkI x N sc it e = true → PI X tg e (tI tb Φ S it)
  | .val m, X, S, tg, e, sc, G, hs, h => i_val G (po_of G hs h (pe_ok m X S e sc G hs h).1)
  | .rng a, X, S, tg, e, sc, G, hs, h => by
    obtain ⟨z, pz, ea, pos, rfl, h1, h2, h3⟩ := i_Irng h
    exact i_rng G hs h1 h2 (pe_ok a X S ea sc G hs h3).1
  | .rng2 a b, X, S, tg, e, sc, G, hs, h => by
    obtain ⟨z, pz, ea, eb, pos, rfl, h1, h2, h3, h4, h5⟩ := i_Irng2 h
    exact i_rng2 G hs h1 h2 h3 (pe_ok a X S ea sc G hs h4).1 (pe_ok b X S eb sc G hs h5).1
  | .enum m, X, S, tg, e, sc, G, hs, h => by cases e <;> cases h
  | .zip a b, X, S, tg, e, sc, G, hs, h => by cases e <;> cases h
theorem pt_ok : ∀ (c : T) (X : Cx) (S : SC) (e : Expr) (sc : Scope), Gd tb Φ x N j S X → X.env.scope = sc → chkT x N sc c e = true → PT X e (tT tb Φ S c)
  | .v m, X, S, e, sc, G, hs, h => by
    obtain ⟨h1, h2⟩ := and2 h
    have q := pe_ok m X S e sc G hs h2
    by_cases hc : isCmp m = true
    · exact q.2.1 hc
    · refine t_val G (po_of G hs h2 q.1) ?_
      rw [Bool.not_eq_true] at hc
      rw [hc, Bool.or_false] at h1
      exact h1
  | .and a b, X, S, e, sc, G, hs, h => by
    obtain ⟨ea, eb, r, p, rfl, h1, h2⟩ := i_Tand h
    rcases h2 with ⟨rfl, h2⟩ | h2
    · exact (t_and (pt_ok a X S ea sc G hs h1) (pw_and1 (pt_ok b X S eb sc G hs h2))).pt
    · exact (t_and (pt_ok a X S ea sc G hs h1) ⟨fun wh => (pt_ok b X S _ sc G hs h2).run⟩).pt
  | .or a b, X, S, e, sc, G, hs, h => by
    obtain ⟨ea, eb, r, p, rfl, h1, h2⟩ := i_Tor h
    rcases h2 with ⟨rfl, h2⟩ | h2
    · exact (t_or (pt_ok a X S ea sc G hs h1) (pw_or1 (pt_ok b X S eb sc G hs h2))).pt
    · exact (t_or (pt_ok a X S ea sc G hs h1) ⟨fun wh => (pt_ok b X S _ sc G hs h2).run⟩).pt
  | .not a, X, S, e, sc, G, hs, h => by
    obtain ⟨ea, p, rfl, h2⟩ := i_Tnot h
    exact t_not (pt_ok a X S ea sc G hs h2)
theorem pts_ok : ∀ (cs : Ts) (X : Cx) (S : SC) (es : List Expr) (sc : Scope), Gd tb Φ x N j S X → X.env.scope = sc → chkTs x N sc cs es = true → PTs X es (tCs tb Φ S cs)
  | .nil, X, S, [], sc, G, hs, h => c_nil
  | .nil, X, S, _ :: _, sc, G, hs, h => by cases h
  | .cons c .nil, X, S, [e], sc, G, hs, h => c_one (pt_ok c X S e sc G hs h)
  | .cons c .nil, X, S, [], sc, G, hs, h => by cases h
  | .cons c .nil, X, S, _ :: _ :: _, sc, G, hs, h => by cases h
  | .cons c (.cons _ _), X, S, es, sc, G, hs, h => by
    rcases es with _ | ⟨e1, _ | ⟨e2, r⟩⟩ <;> cases h
end
end
end MP

set_option maxRecDepth 100000
set_option maxHeartbeats 1000000
/-! MP20: statements: the checker, readings. -/
namespace MP
open PySem PySem.Spec PyProof.Rows L2

def isComp : Expr → Bool
  | .ListComp .. => true
  | .SetComp .. => true
  | .DictComp .. => true
  | _ => false
def isTupE : Expr → Bool
  | .Tuple .. => true
  | _ => false
def locL (sc : Scope) (y : Str) : Bool := match sc.names.lookup y with
  | some .local => true
  | _ => false
/-- a list comprehension that the store takes part in -/
def swB (sc : Scope) (y : Str) (py : Pos) : Expr → Bool
  | .ListComp _ _ s p => locL sc y && (py.line == p.line) && !(s.names.any fun (n, k) => n == y && (k == .local || k == .cell))
  | .DictComp _ _ _ s p => locL sc y && (py.line == p.line) && !(s.names.any fun (n, k) => n == y && (k == .local || k == .cell))
  | _ => false
def isLc : Expr → Bool
  | .ListComp .. => true
  | .DictComp .. => true
  | _ => false
section
variable (x : Tx) (N : List Str) (sc : Scope)
mutual
def chkS : S → Stmt → Bool
  | .expr a, .Expr e _ => !isComp e && chk x N sc a e
  | .set i a, .Assign [.Name y py] e p => decide (N[i]? = some y) && locB sc y && ((!isComp e && chk x N sc a e) || (isLc e && (swB sc y py e || !locL sc y) && (isF x a && chk x N sc a e)))
  | .setN i a, .Assign [.Name y py] e p => decide (N[i]? = some y) && locB sc y && isF x a && ((!isComp e && chk x N sc a e) || (isLc e && (swB sc y py e || !locL sc y) && chk x N sc a e))
  | .retF a, .Return (some e) _ => isF x a && chk x N sc a e
  | .retO i, .Return (some (.Name y _)) _ => decide (N[i]? = some y) && visB sc y && dbgOk y
  | .put i k v, .Assign [.Subscript (.Name y _) ek _] e _ => decide (N[i]? = some y) && visB sc y && dbgOk y && chk x N sc k ek && chk x N sc v e
  | .putS o k v, .Assign [.Subscript eo ek _] e _ => !isComp e && chk x N sc o eo && chk x N sc k ek && chk x N sc v e
  | .putO o k v, .Assign [.Subscript eo ek _] e _ => !isComp e && chk x N sc o eo && chk x N sc k ek && chk x N sc v e
  | .sattN i f v, .Assign [.Attribute (.Name y _) g _] e _ => decide (N[i]? = some y) && visB sc y && dbgOk y && decide (f = g) && isF x v && chk x N sc v e
  | .ext i a, .Expr (.Call (.Attribute (.Name y _) m ap) [e] [] p) _ => decide (N[i]? = some y) && visB sc y && dbgOk y && decide (m = "extend") && plainA e && (ap.endLine == p.line) && chk x N sc a e
  | .pop j i, .Assign [.Name z _] (.Call (.Attribute (.Name y _) m ap) [] [] p) _ => decide (N[i]? = some y) && visB sc y && dbgOk y && decide (m = "pop") && (ap.endLine == p.line) && decide (N[j]? = some z) && locB sc z
  | .clr i, .Expr (.Call (.Attribute (.Name y _) m ap) [] [] p) _ => decide (N[i]? = some y) && visB sc y && dbgOk y && decide (m = "clear") && (ap.endLine == p.line)
  | .unp is a, .Assign [.Tuple es _ _] e _ => chkNms N sc is es && decide (2 ≤ is.length) && !isComp e && !isTupE e && chk x N sc a e
  | .aug i op a, .AugAssign (.Name y _) o e _ => decide (N[i]? = some y) && locB sc y && decide (bopOf op = o) && chk x N sc a e
  | .satt o f v, .Assign [.Attribute eo g _] e _ => decide (f = g) && !isComp e && chk x N sc o eo && chk x N sc v e
  | .iff c a b, .If ec sa sb _ => chkT x N sc c ec && chkB a sa && chkB b sb
  | .whl c b, .While ec sb [] _ => chkT x N sc c ec && chkB b sb
  | .forr p it b, .For tg iter sb [] _ => chkP N sc p tg && plainA iter && chkI x N sc it iter && chkB b sb
  | .ret a, .Return (some e) _ => chk x N sc a e
  | .retn, .Return none _ => true
  | .brk, .Break _ => true
  | .cnt, .Continue _ => true
  | .pass, .Pass _ => true
  | .app i a, .Expr (.Call (.Attribute (.Name y _) m ap) [e] [] p) _ => decide (N[i]? = some y) && visB sc y && dbgOk y && decide (m = "append") && plainA e && (ap.endLine == p.line) && chk x N sc a e
  | .appR o a, .Expr (.Call (.Attribute eo m ap) [e] [] p) _ => decide (m = "append") && baseP eo && plainA e && (ap.endLine == p.line) && chk x N sc o eo && chk x N sc a e
  | .clrR o, .Expr (.Call (.Attribute eo m ap) [] [] p) _ => decide (m = "clear") && baseP eo && (ap.endLine == p.line) && chk x N sc o eo
  | .forR p m b, .For tg iter sb [] _ => chkP N sc p tg && plainA iter && chk x N sc m iter && chkB b sb
  | .never, _ => true
  | _, _ => false
def chkB : Ss → List Stmt → Bool
  | .nil, [] => true
  | .cons (.frz _) l, sts => chkB l sts
  | .cons (.wip _) l, sts => chkB l sts
  | .cons s l, st :: sts => chkS s st && chkB l sts
  | _, _ => false
end
end

/-- where a look back ends -/
structure Bp where
  i : List Addr
  M : Addr → Prop
  H : Hp
/-- a scene within a def, and how it has come from there -/
structure RS (S : SC) (B : Bp) (ι : List Addr) (e : Ev) (h : MH) (σ : L2.St) (H : Hp) : Prop where
  rl : Rel S ι e h σ H
  go : Go B.i B.M B.H ι (Mu S.M0 ι e σ) H
  m0 : ∀ a, S.M0 a → ∃ o, S.H0 a = some o
/-- a scene with a new object that nothing else knows -/
structure RSF (S : SC) (B : Bp) (ι : List Addr) (e : Ev) (h : MH) (σ : L2.St) (H : Hp) (p : Addr) (d : D) : Prop where
  rl : Rel (SP1 S p) ι e h σ H
  go : Go B.i B.M B.H ι (Mu (SP1 S p).M0 ι e σ) H
  m0 : ∀ a, S.M0 a → ∃ o, S.H0 a = some o
  h0 : S.H0 p = none
  ni : p ∉ ι
  c : ContAt S.C ι (Mu (SP1 S p).M0 ι e σ) H p d
def OutS (S : SC) (B : Bp) (D : Ends) : O → Prop
  | .nx e h => ∀ ι σ H, RS S B ι e h σ H → D.nx σ H
  | .bk e h => ∀ ι σ H, RS S B ι e h σ H → D.bk σ H
  | .ct e h => ∀ ι σ H, RS S B ι e h σ H → D.ct σ H
  | .rt d h => ∀ ι e σ H v, RS S B ι e h σ H → Rep S.C ι (Mu S.M0 ι e σ) H v d → D.rt v H
  | .rtF d h => ∀ ι e σ H p, RSF S B ι e h σ H p d → D.rt (.ref p) H
  | _ => False
def tS (tb : Tb) (Φ : Nat → List D → MH → R D) (S : SC) (s : MP.S) : TS := fun D σ H => ∃ B ι e h, RS S B ι e h σ H ∧ OutS S B D (exec tb Φ s e h)
def tSs (tb : Tb) (Φ : Nat → List D → MH → R D) (S : SC) (l : Ss) : TS := fun D σ H => ∃ B ι e h, RS S B ι e h σ H ∧ OutS S B D (execs tb Φ l e h)
section
variable {S : SC} {B : Bp} {ι ι' : List Addr} {e e' : Ev} {h h' : MH} {σ σ' : L2.St} {H H' : Hp} {D : Ends}
theorem RS.step (r : RS S B ι e h σ H) (g : Go ι (Mu S.M0 ι e σ) H ι' (Mu S.M0 ι' e σ) H') (rl : Rel S ι' e h' σ H') : RS S B ι' e h' σ H' := ⟨rl, r.go.trans g, r.m0⟩
theorem RS.less (r : RS S B ι e h σ H) (rl : Rel S ι e' h' σ' H) (m : ∀ a, Mu S.M0 ι e' σ' a → Mu S.M0 ι e σ a) : RS S B ι e' h' σ' H := ⟨rl, r.go.trans (.less m), r.m0⟩
theorem mu_own (o : ∀ i a, OwnAt e' σ' i a → OwnAt e σ i a) (a : Addr) (m : Mu S.M0 ι e' σ' a) : Mu S.M0 ι e σ a := by
  rcases m with m | m | ⟨i, m⟩
  · exact .inl m
  · exact .inr (.inl m)
  · exact .inr (.inr ⟨i, o i a m⟩)
theorem RS.setVal {i : Nat} {v : V} {d : MP.D} (r : RS S B ι e h σ H) (rp : Rep S.C ι (Mu S.M0 ι e σ) H v d) : RS S B ι (e.set i (.val d)) h (σ.set i (some v)) H :=
  r.less (r.rl.setVal rp) (mu_own fun _ _ q => own_setVal q)
theorem st_ok {α : Type} {x : R α} {f : α → MH → O} (q : OutS S B D (x.st e f)) : ∃ a h', x = .ok a h' ∧ OutS S B D (f a h') := by
  cases x with
  | ok a h' => exact ⟨a, h', rfl, q⟩
  | ex c fs h' => exact q.elim
  | no => exact q.elim
theorem OutS.mono {B' : Bp} (g : Go B.i B.M B.H B'.i B'.M B'.H) : ∀ {r : O}, OutS S B D r → OutS S B' D r
  | .nx _ _, q => fun ι σ H r => q ι σ H ⟨r.rl, g.trans r.go, r.m0⟩
  | .bk _ _, q => fun ι σ H r => q ι σ H ⟨r.rl, g.trans r.go, r.m0⟩
  | .ct _ _, q => fun ι σ H r => q ι σ H ⟨r.rl, g.trans r.go, r.m0⟩
  | .rt _ _, q => fun ι e σ H v r => q ι e σ H v ⟨r.rl, g.trans r.go, r.m0⟩
  | .rtF _ _, q => fun ι e σ H p r => q ι e σ H p ⟨r.rl, g.trans r.go, r.m0, r.h0, r.ni, r.c⟩
  | .ex _ _ _ _, q => q
  | .no, q => q
theorem PS.imp {X : Cx} {st : Stmt} {t t' : TS} (h : PS X st t) (i : ∀ D σ H, t' D σ H → t D σ H) : PS X st t' := ⟨fun pins s σ H D I q => h.run pins s σ H D I (i D σ H q)⟩
theorem PSs.imp {X : Cx} {st : List Stmt} {t t' : TS} (h : PSs X st t) (i : ∀ D σ H, t' D σ H → t D σ H) : PSs X st t' := ⟨fun pins s σ H D I q => h.run pins s σ H D I (i D σ H q)⟩
/-- an own object is changed -/
theorem RS.ownSet {i : Nat} {a : Addr} {d d' : MP.D} {o : HO} (r : RS S B ι e h σ H) (q : e[i]? = some (.own d)) (qs : σ[i]? = some (some (.ref a))) (c : ContAt S.C ι (Mu S.M0 ι e σ) (upd H a o) a d') : RS S B ι (e.set i (.own d')) h σ (upd H a o) := by
  have rl := r.rl
  have hm : Mu S.M0 ι e σ a := .inr (.inr ⟨i, ⟨d, q⟩, qs⟩)
  have own : ∀ k b, OwnAt (e.set i (.own d')) σ k b → OwnAt e σ k b := fun k b ⟨⟨d2, q1⟩, q2⟩ => by
    rcases set_some q1 with ⟨rfl, z, _⟩ | ⟨z, q1⟩
    · exact ⟨⟨d, q⟩, q2⟩
    · exact ⟨⟨d2, q1⟩, q2⟩
  have g : Go ι (Mu S.M0 ι e σ) H ι (Mu S.M0 ι (e.set i (.own d')) σ) (upd H a o) := (Go.write hm).swap (mu_own own)
  obtain ⟨a', q1, q2, q3, q4⟩ := rl.own i d q
  rw [qs] at q1
  cases q1
  refine ⟨⟨by rw [List.length_set]; exact rl.len, fun k d2 z => ?_, fun k d2 z => ?_, fun k l b z w => rl.dist k l b (own k b z) (own l b w), rl.hl, rl.hd, fun n d2 z => ?_, fun b u z w => ?_, rl.fresh, rl.pre, fun b m => ?_⟩, r.go.trans g, r.m0⟩
  · rcases set_some z with ⟨_, w, _⟩ | ⟨_, z⟩
    · cases w
    · obtain ⟨v, h1, h2⟩ := rl.val k d2 z
      exact ⟨v, h1, h2.go g⟩
  · rcases set_some z with ⟨rfl, w, _⟩ | ⟨hk, z⟩
    · cases w
      exact ⟨a, qs, q2, q3, c.go (.less (mu_own own)) fun _ z => z⟩
    · obtain ⟨b, h1, h2, h3, h4⟩ := rl.own k d2 z
      have hb : b ≠ a := fun y => hk (rl.dist k i a ⟨⟨d2, z⟩, by rw [h1, y]⟩ ⟨⟨d, q⟩, qs⟩)
      exact ⟨b, h1, h2, h3, h4.go g fun u hu => by rw [upd_ne hb]; exact hu⟩
  · obtain ⟨b, h1, h2⟩ := rl.hp n d2 z
    have hb : b ≠ a := fun y => q3 (y ▸ List.mem_of_getElem? h1)
    exact ⟨b, h1, h2.go g fun u hu => by rw [upd_ne hb]; exact hu⟩
  · have hb : b ≠ a := fun y => by subst y; rw [q2] at z; cases z
    rw [upd_ne hb]; exact rl.kept b u z w
  · obtain ⟨u, hu⟩ := rl.mz b m
    by_cases hb : b = a
    · subst hb; exact ⟨_, upd_same⟩
    · exact ⟨u, by rw [upd_ne hb]; exact hu⟩
theorem own_new {i : Nat} {p : Addr} {d : MP.D} {k : Nat} {b : Addr} (q : OwnAt (e.set i (.own d)) (σ.set i (some (.ref p))) k b) : (k = i ∧ b = p) ∨ (k ≠ i ∧ OwnAt e σ k b) := by
  obtain ⟨⟨d2, q1⟩, q2⟩ := q
  rcases set_some q1 with ⟨rfl, z, _⟩ | ⟨z, q1⟩
  · rcases set_some q2 with ⟨_, z, _⟩ | ⟨z, _⟩
    · cases z; exact .inl ⟨rfl, rfl⟩
    · exact absurd rfl z
  · rcases set_some q2 with ⟨z', _⟩ | ⟨_, q2⟩
    · exact absurd z' z
    · exact .inr ⟨z, ⟨d2, q1⟩, q2⟩
theorem go_new {i : Nat} {p : Addr} {d : MP.D} {o : HO} (hp : H p = none) : Go ι (Mu S.M0 ι e σ) H ι (Mu S.M0 ι (e.set i (.own d)) (σ.set i (some (.ref p)))) (upd H p o) := by
  have mu : ∀ b, Mu S.M0 ι (e.set i (.own d)) (σ.set i (some (.ref p))) b → b = p ∨ Mu S.M0 ι e σ b := fun b m => by
    rcases m with m | m | ⟨k, m⟩
    · exact .inr (.inl m)
    · exact .inr (.inr (.inl m))
    · rcases own_new m with ⟨_, z⟩ | ⟨_, z⟩
      · exact .inl z
      · exact .inr (.inr (.inr ⟨k, z⟩))
  exact ⟨fun _ _ q => q, fun b u q _ => same_laid hp b u q, fun b u q m => (mu b m).elim (fun z => by subst z; rw [hp] at q; cases q) (fun z => z), fun _ z => .inl z, fun b u q => ⟨u, same_laid hp b u q⟩⟩
/-- a slot gets a new own object -/
theorem RS.ownNew {i : Nat} {p : Addr} {d : MP.D} {o : HO} (r : RS S B ι e h σ H) (hp : H p = none) (c : ContAt S.C ι (Mu S.M0 ι (e.set i (.own d)) (σ.set i (some (.ref p)))) (upd H p o) p d) : RS S B ι (e.set i (.own d)) h (σ.set i (some (.ref p))) (upd H p o) := by
  have rl := r.rl
  have g : Go ι (Mu S.M0 ι e σ) H ι (Mu S.M0 ι (e.set i (.own d)) (σ.set i (some (.ref p)))) (upd H p o) := go_new hp
  have npi : p ∉ ι := rl.notin hp
  have np0 : S.H0 p = none := by
    cases q : S.H0 p with
    | none => rfl
    | some u => have := rl.kept p u q (rl.noti0 hp); rw [hp] at this; cases this
  have ownH : ∀ {k : Nat} {b : Addr}, OwnAt e σ k b → b ≠ p := fun {k b} ⟨⟨d2, q1⟩, q2⟩ z => by
    obtain ⟨b', h1, _, _, h4⟩ := rl.own k d2 q1
    rw [q2] at h1
    cases h1
    obtain ⟨u, hu⟩ := h4.some
    rw [z, hp] at hu; cases hu
  refine ⟨⟨by rw [List.length_set, List.length_set]; exact rl.len, fun k d2 z => ?_, fun k d2 z => ?_, fun k l b z w => ?_, rl.hl, rl.hd, fun n d2 z => ?_, fun b u z w => same_laid hp b u (rl.kept b u z w), rl.fresh, rl.pre, fun b m => ?_⟩, r.go.trans g, r.m0⟩
  · rcases set_some z with ⟨_, w, _⟩ | ⟨hk, z⟩
    · cases w
    · obtain ⟨v, h1, h2⟩ := rl.val k d2 z
      exact ⟨v, by rw [List.getElem?_set_ne (fun y => hk y.symm)]; exact h1, h2.go g⟩
  · rcases set_some z with ⟨rfl, w, hl⟩ | ⟨hk, z⟩
    · cases w
      exact ⟨p, by rw [List.getElem?_set_self (by rw [← rl.len]; exact hl)], np0, npi, c⟩
    · obtain ⟨b, h1, h2, h3, h4⟩ := rl.own k d2 z
      exact ⟨b, by rw [List.getElem?_set_ne (fun y => hk y.symm)]; exact h1, h2, h3, h4.go g fun u hu => same_laid hp b u hu⟩
  · rcases own_new z with ⟨z1, z2⟩ | ⟨z1, z2⟩ <;> rcases own_new w with ⟨w1, w2⟩ | ⟨w1, w2⟩
    · rw [z1, w1]
    · subst z2; exact absurd rfl (ownH w2)
    · subst w2; exact absurd rfl (ownH z2)
    · exact rl.dist k l b z2 w2
  · obtain ⟨b, h1, h2⟩ := rl.hp n d2 z
    exact ⟨b, h1, h2.go g fun u hu => same_laid hp b u hu⟩
  · obtain ⟨u, hu⟩ := rl.mz b m
    exact ⟨u, same_laid hp b u hu⟩
/-- an own object is not changed from now on -/
theorem RS.freezeG {i : Nat} {d : MP.D} {a : Addr} {H2 : Hp} (r : RS S B ι e h σ H) (q : e[i]? = some (.own d)) (qs : σ[i]? = some (some (.ref a))) (eqH : ∀ b, b ≠ a → H2 b = H b) (hs : ∃ o, H2 a = some o) (g : Go ι (Mu S.M0 ι e σ) H ι (Mu S.M0 ι (e.set i (.val d)) σ) H2)
    (rp : ¬ Mu S.M0 ι (e.set i (.val d)) σ a → Rep S.C ι (Mu S.M0 ι (e.set i (.val d)) σ) H2 (.ref a) d) : RS S B ι (e.set i (.val d)) h σ H2 := by
  have rl := r.rl
  have own : ∀ k b, OwnAt (e.set i (.val d)) σ k b → k ≠ i ∧ OwnAt e σ k b := fun k b ⟨⟨d2, q1⟩, q2⟩ => by
    rcases set_some q1 with ⟨_, z, _⟩ | ⟨z, q1⟩
    · cases z
    · exact ⟨z, ⟨d2, q1⟩, q2⟩
  obtain ⟨a', h1, h2, h3, h4⟩ := rl.own i d q
  rw [qs] at h1
  cases h1
  have nm : ¬ Mu S.M0 ι (e.set i (.val d)) σ a := fun m => by
    rcases m with m | m | ⟨l, m⟩
    · obtain ⟨o, z⟩ := r.m0 a m; rw [h2] at z; cases z
    · exact h3 m
    · exact (own l a m).1 (rl.dist l i a (own l a m).2 ⟨⟨d, q⟩, qs⟩)
  refine ⟨⟨by rw [List.length_set]; exact rl.len, fun k d2 z => ?_, fun k d2 z => ?_, fun k l b z w => rl.dist k l b (own k b z).2 (own l b w).2, rl.hl, rl.hd, fun n d2 z => ?_, fun b u z w => ?_, rl.fresh, rl.pre, fun b m => ?_⟩, r.go.trans g, r.m0⟩
  · rcases set_some z with ⟨rfl, w, _⟩ | ⟨hk, z⟩
    · cases w
      exact ⟨_, qs, rp nm⟩
    · obtain ⟨v, g1, g2⟩ := rl.val k d2 z
      exact ⟨v, g1, g2.go g⟩
  · rcases set_some z with ⟨_, w, _⟩ | ⟨hk, z⟩
    · cases w
    · obtain ⟨b, g1, g2, g3, g4⟩ := rl.own k d2 z
      have hb : b ≠ a := fun y => hk (rl.dist k i a ⟨⟨d2, z⟩, by rw [g1, y]⟩ ⟨⟨d, q⟩, qs⟩)
      exact ⟨b, g1, g2, g3, g4.go g fun u hu => by rw [eqH b hb]; exact hu⟩
  · obtain ⟨b, g1, g2⟩ := rl.hp n d2 z
    have hb : b ≠ a := fun y => h3 (y ▸ List.mem_of_getElem? g1)
    exact ⟨b, g1, g2.go g fun u hu => by rw [eqH b hb]; exact hu⟩
  · have hb : b ≠ a := fun y => by subst y; rw [h2] at z; cases z
    rw [eqH b hb]; exact rl.kept b u z w
  · by_cases hb : b = a
    · subst hb; exact hs
    · obtain ⟨u, hu⟩ := rl.mz b m
      exact ⟨u, by rw [eqH b hb]; exact hu⟩
theorem RS.freeze {i : Nat} {d : MP.D} {R : Hp → Prop} (r : RS S B ι e h σ H) (q : e[i]? = some (.own d)) (K : ∀ H2, RS S B ι (e.set i (.val d)) h σ H2 → R H2) : LockQ R H := by
  obtain ⟨a, qs, h2, h3, h4⟩ := r.rl.own i d q
  have hm : Mu S.M0 ι e σ a := .inr (.inr ⟨i, ⟨d, q⟩, qs⟩)
  have mu : ∀ b, Mu S.M0 ι (e.set i (.val d)) σ b → Mu S.M0 ι e σ b := mu_own fun k b ⟨⟨d2, q1⟩, q2⟩ => by
    rcases set_some q1 with ⟨_, z, _⟩ | ⟨z, q1⟩
    · cases z
    · exact ⟨⟨d2, q1⟩, q2⟩
  have gl : Go ι (Mu S.M0 ι e σ) H ι (Mu S.M0 ι (e.set i (.val d)) σ) H := .less mu
  have gw : ∀ {o : HO}, Go ι (Mu S.M0 ι e σ) H ι (Mu S.M0 ι (e.set i (.val d)) σ) (upd H a o) := (Go.write hm).trans (.less mu)
  cases h4 with
  | lst z rs => exact .done (K H (r.freezeG q qs (fun _ _ => rfl) ⟨_, z⟩ gl fun nm => .lst nm z (rs.go gl)))
  | ins z rs => exact .done (K H (r.freezeG q qs (fun _ _ => rfl) ⟨_, z⟩ gl fun nm => .ins nm z (rs.go gl)))
  | dctK z rs => exact .lock z True.intro fun o => .done (K _ (r.freezeG q qs (fun b hb => upd_ne hb) ⟨_, upd_same⟩ gw fun nm => .dctK nm upd_same (rs.go gw)))
  | dctT z rs => exact .lock z True.intro fun o => .done (K _ (r.freezeG q qs (fun b hb => upd_ne hb) ⟨_, upd_same⟩ gw fun nm => .dctT nm upd_same (rs.go gw)))
/-- slots are forgotten -/
theorem RS.wip {is : List Nat} (r : RS S B ι e h σ H) : RS S B ι (wipeE e is) h σ H := by
  have own : ∀ i a, OwnAt (wipeE e is) σ i a → OwnAt e σ i a := fun i a ⟨⟨d, q⟩, q2⟩ => by
    rw [wipeE_get] at q
    split at q
    · cases z : e[i]? with
      | none => rw [z] at q; cases q
      | some s => rw [z] at q; cases q
    · exact ⟨⟨d, q⟩, q2⟩
  refine r.less (r.rl.re (by rw [wipeE_len]; exact r.rl.len) own (fun k d q => ?_) (fun k d q => ?_)) (mu_own own)
  · rw [wipeE_get] at q
    split at q
    · cases z : e[k]? with
      | none => rw [z] at q; cases q
      | some s => rw [z] at q; cases q
    · exact r.rl.val k d q
  · rw [wipeE_get] at q
    split at q
    · cases z : e[k]? with
      | none => rw [z] at q; cases q
      | some s => rw [z] at q; cases q
    · exact ⟨q, rfl⟩
/-- a slot takes a new object that nothing else knows -/
theorem RS.ownF {i : Nat} {p : Addr} {d : MP.D} (r : RS S B ι e h σ H) (hp : H p = none) (ni : p ∉ ι') (g : Go ι (Mu S.M0 ι e σ) H ι' (Mu (SP1 S p).M0 ι' e σ) H') (rl : Rel (SP1 S p) ι' e h' σ H') (c : ContAt S.C ι' (Mu (SP1 S p).M0 ι' e σ) H' p d) : RS S B ι' (e.set i (.own d)) h' (σ.set i (some (.ref p))) H' := by
  have sub : ∀ b, Mu S.M0 ι' (e.set i (.own d)) (σ.set i (some (.ref p))) b → Mu (SP1 S p).M0 ι' e σ b := fun b m => by
    rcases m with m | m | ⟨k, m⟩
    · exact .inl (.inl m)
    · exact .inr (.inl m)
    · rcases own_new m with ⟨_, z⟩ | ⟨_, z⟩
      · exact .inl (.inr z)
      · exact .inr (.inr ⟨k, z⟩)
  have gl : Go ι' (Mu (SP1 S p).M0 ι' e σ) H' ι' (Mu S.M0 ι' (e.set i (.own d)) (σ.set i (some (.ref p)))) H' := .less sub
  have ownH : ∀ {k : Nat} {b : Addr}, OwnAt e σ k b → b ≠ p := fun {k b} z w => r.rl.noOwnP hp k (w ▸ z)
  refine ⟨⟨by rw [List.length_set, List.length_set]; exact rl.len, fun k d2 z => ?_, fun k d2 z => ?_, fun k l b z w => ?_, rl.hl, rl.hd, fun n d2 z => ?_, rl.kept, rl.fresh, rl.pre, fun b m => rl.mz b (.inl m)⟩, r.go.trans (g.trans gl), r.m0⟩
  · rcases set_some z with ⟨_, w, _⟩ | ⟨hk, z⟩
    · cases w
    · obtain ⟨v, h1, h2⟩ := rl.val k d2 z
      exact ⟨v, by rw [List.getElem?_set_ne (fun y => hk y.symm)]; exact h1, h2.go gl⟩
  · rcases set_some z with ⟨rfl, w, hl⟩ | ⟨hk, z⟩
    · cases w
      exact ⟨p, by rw [List.getElem?_set_self (by rw [← rl.len]; exact hl)], r.rl.h0P hp, ni, c.go gl fun _ z => z⟩
    · obtain ⟨b, h1, h2, h3, h4⟩ := rl.own k d2 z
      exact ⟨b, by rw [List.getElem?_set_ne (fun y => hk y.symm)]; exact h1, h2, h3, h4.go gl fun _ z => z⟩
  · rcases own_new z with ⟨z1, z2⟩ | ⟨z1, z2⟩ <;> rcases own_new w with ⟨w1, w2⟩ | ⟨w1, w2⟩
    · rw [z1, w1]
    · subst z2; exact absurd rfl (ownH w2)
    · subst w2; exact absurd rfl (ownH z2)
    · exact rl.dist k l b z2 w2
  · obtain ⟨b, h1, h2⟩ := rl.hp n d2 z
    exact ⟨b, h1, h2.go gl fun _ z => z⟩
/-- a new object becomes a shared one -/
theorem RS.share {p : Addr} {d : MP.D} (r : RS S B ι e h σ H) (hp : H p = none) (ni : p ∉ ι') (g : Go ι (Mu S.M0 ι e σ) H ι' (Mu (SP1 S p).M0 ι' e σ) H') (rl : Rel (SP1 S p) ι' e h' σ H') (c : ContAt S.C ι' (Mu (SP1 S p).M0 ι' e σ) H' p d) : RS S B (ι' ++ [p]) e (h' ++ [d]) σ H' := by
  have mem : ∀ {b}, b ∈ ι' ++ [p] → b ∈ ι' ∨ b = p := fun z => by simpa using z
  have sub : ∀ b, Mu S.M0 (ι' ++ [p]) e σ b → Mu (SP1 S p).M0 ι' e σ b := fun b m => by
    rcases m with m | m | m
    · exact .inl (.inl m)
    · rcases mem m with m | m
      · exact .inr (.inl m)
      · exact .inl (.inr m)
    · exact .inr (.inr m)
  have pre : ∀ (n : Nat) (a : Addr), ι'[n]? = some a → (ι' ++ [p])[n]? = some a := fun n a q => by
    have hl : n < ι'.length := by
      by_cases w : n < ι'.length
      · exact w
      · rw [List.getElem?_eq_none (by omega)] at q; cases q
    rw [List.getElem?_append_left hl]; exact q
  have h0p := r.rl.h0P hp
  have gl : Go ι (Mu S.M0 ι e σ) H (ι' ++ [p]) (Mu S.M0 (ι' ++ [p]) e σ) H' := ⟨fun n a q => pre n a (g.pre n a q), g.kept, fun a o q m => g.new a o q (sub a m), fun a m => (mem m).elim (g.nw a) fun z => (by subst z; exact .inr hp), g.live⟩
  refine ⟨⟨rl.len, fun k d2 z => ?_, fun k d2 z => ?_, rl.dist, ?_, ?_, fun n d2 z => ?_, rl.kept, fun b m => ?_, fun n a q => pre n a (rl.pre n a q), fun b m => rl.mz b (.inl m)⟩, r.go.trans gl, r.m0⟩
  · obtain ⟨v, h1, h2⟩ := rl.val k d2 z
    exact ⟨v, h1, h2.wide pre sub⟩
  · obtain ⟨b, h1, h2, h3, h4⟩ := rl.own k d2 z
    refine ⟨b, h1, h2, fun m => ?_, h4.wide pre sub⟩
    rcases mem m with m | m
    · exact h3 m
    · subst m; exact r.rl.noOwnP hp k ⟨⟨d2, z⟩, h1⟩
  · rw [List.length_append, List.length_append, rl.hl]; rfl
  · rw [List.nodup_append]
    refine ⟨rl.hd, by simp, fun a ha b hb z => ?_⟩
    have : b = p := by simpa using hb
    subst this
    exact ni (z ▸ ha)
  · by_cases hlt : n < h'.length
    · rw [List.getElem?_append_left hlt] at z
      obtain ⟨b, h1, h2⟩ := rl.hp n d2 z
      exact ⟨b, pre n b h1, h2.wide pre sub⟩
    · by_cases hn : n = h'.length
      · subst hn
        rw [List.getElem?_append_right (Nat.le_refl _), Nat.sub_self] at z
        cases z
        refine ⟨p, ?_, c.wide pre sub⟩
        rw [← rl.hl, List.getElem?_append_right (Nat.le_refl _), Nat.sub_self]
        rfl
      · rw [List.getElem?_eq_none (by rw [List.length_append]; show h'.length + 1 ≤ n; omega)] at z
        cases z
  · rcases mem m with m | m
    · exact rl.fresh b m
    · subst m; exact .inr h0p
end
end MP

set_option maxRecDepth 100000
set_option maxHeartbeats 1000000
/-! MP21: statements, a lemma for each form. -/
namespace MP
open PySem PySem.Spec PyProof.Rows L2

structure Gs (tb : Tb) (Φ : Nat → List D → MH → R D) (x : Tx) (N : List Str) (j : Nat) (S : SC) (X : Cx) : Prop extends Gd tb Φ x N j S X where
  fnT : ∀ y, X.fn y = true
  own : PassesOwn (model X.prog X.w) X.A X.env X.xe
  kind : X.env.scope.kind = .function
theorem comp_sw {e : Expr} {t : Option Expr} {l : Nat} {env : Env} (h : isComp e = false) : swapsWith e t l env = pure false := by
  cases e <;> first | rfl | cases h
theorem lc_sw {e : Expr} {y : Str} {py : Pos} {l : Nat} {env : Env} (hl : isLc e = true) (hk : env.scope.kind = .function) (h : locL env.scope y = false) : swapsWith e (some (.Name y py)) l env = pure false := by
  have hb : env.blockKind = .function := by unfold Env.blockKind; rw [hk]; rfl
  have ky : (env.kindOf y == some NameKind.local) = false := by
    unfold locL at h
    show (env.scope.names.lookup y == some NameKind.local) = false
    split at h
    · cases h
    · rename_i w
      cases z : env.scope.names.lookup y with
      | none => rfl
      | some k => cases k <;> first | rfl | exact absurd z w
  cases e <;> first | (cases hl; done) | skip
  all_goals (unfold swapsWith; simp only [hb, ky]; rfl)
theorem lc_sw2 {ee : Expr} {gs : List Comprehension} {s : Scope} {p : Pos} {y : Str} {py : Pos} {l : Nat} {env : Env} (hk : env.scope.kind = .function) (h : swB env.scope y py (.ListComp ee gs s p) = true) : env.scope.names.lookup y = some .local ∧ swapsWith (.ListComp ee gs s p) (some (.Name y py)) l env = pure true := by
  obtain ⟨h1, h2, h3⟩ := and3 h
  have hy : env.scope.names.lookup y = some .local := by
    unfold locL at h1
    split at h1
    · assumption
    · cases h1
  exact ⟨hy, sw_true hk hy h2 ((Bool.not_eq_true' _).mp h3)⟩
section
variable {tb : Tb} {Φ : Nat → List D → MH → R D} {x : Tx} {N : List Str} {j : Nat} {S : SC} {B : Bp} {X : Cx} {e ea eb ec : Expr} {a b c m : M} {pos p p2 py : Pos} {y : Str}

theorem s_expr (ha : PE X e (tE tb Φ S a)) (hc : isComp e = false) : PS X (.Expr e pos) (tS tb Φ S (.expr a)) :=
  PS.imp (ps_expr ha (comp_sw hc)) fun D σ H ⟨B, ι, e, h, r, q⟩ => by
    obtain ⟨d, h', eq, q⟩ := st_ok q
    exact ⟨ι, e, h, r.rl, d, h', eq, fun ι' H' v g rl rp => q ι' σ H' (r.step g rl)⟩
theorem set_core {i : Nat} {D : Ends} {σ : L2.St} {H : Hp} (q : tS tb Φ S (.set i a) D σ H) : tE tb Φ S a σ H (fun v H1 => gName i v σ H1 D.nx) := by
  obtain ⟨B, ι, e, h, r, q⟩ := q
  obtain ⟨d, h', eq, q⟩ := st_ok q
  exact ⟨ι, e, h, r.rl, d, h', eq, fun ι' H' v g rl rp => q ι' _ H' ((r.step g rl).setVal rp)⟩
theorem s_set {i : Nat} (G : Gs tb Φ x N j S X) (h1 : N[i]? = some y) (h2 : locB X.env.scope y = true) (ha : PE X e (tE tb Φ S a)) (hc : swapsWith e (some (.Name y py)) pos.line X.env = pure false) : PS X (.Assign [.Name y py] e pos) (tS tb Φ S (.set i a)) :=
  PS.imp (ps_set (by rw [G.nm]; exact G.nd) (by rw [G.nm]; exact h1) (locB_of h2) ha hc (.inl (G.fnT y))) fun D σ H q => set_core q
theorem setF_core {i : Nat} {D : Ends} {σ : L2.St} {H : Hp} (q : tS tb Φ S (.setN i a) D σ H) : tF tb Φ S a σ H (fun v H1 => gName i v σ H1 D.nx) := by
  obtain ⟨B, ι, e, h, r, q⟩ := q
  obtain ⟨d, h', eq, q⟩ := st_ok q
  obtain ⟨q1, q⟩ : ∃ _ : freshD d = true, OutS S B D (.nx (e.set i (.own d)) h') := by
    split at q
    · exact ⟨by assumption, q⟩
    · exact q.elim
  exact ⟨ι, e, h, r.rl, d, h', eq, fun ι' H' p hp ni g rl c => q ι' _ H' (r.ownF hp ni g rl c)⟩
theorem s_setF {i : Nat} (G : Gs tb Φ x N j S X) (h1 : N[i]? = some y) (h2 : locB X.env.scope y = true) (ha : PE X e (tF tb Φ S a)) (hc : swapsWith e (some (.Name y py)) pos.line X.env = pure false) : PS X (.Assign [.Name y py] e pos) (tS tb Φ S (.setN i a)) :=
  PS.imp (ps_set (by rw [G.nm]; exact G.nd) (by rw [G.nm]; exact h1) (locB_of h2) ha hc (.inl (G.fnT y))) fun D σ H q => setF_core q
theorem PS.lock {st : Stmt} {t : TS} (h : PS X st t) : PS X st (fun D σ H => t ⟨fun σ H => LockQ (D.nx σ) H, fun v H => LockQ (D.rt v) H, fun σ H => LockQ (D.bk σ) H, fun σ H => LockQ (D.ct σ) H⟩ σ H) := ⟨fun pins s σ H D I q =>
  thn (h.run pins s σ H _ I q) fun f s1 z => by
    cases f with
    | next => obtain ⟨σ', H', I', l⟩ := z; obtain ⟨H2, I2, q2⟩ := l.run I'; exact ⟨σ', H2, I2, q2⟩
    | brk => obtain ⟨σ', H', I', l⟩ := z; obtain ⟨H2, I2, q2⟩ := l.run I'; exact ⟨σ', H2, I2, q2⟩
    | cont => obtain ⟨σ', H', I', l⟩ := z; obtain ⟨H2, I2, q2⟩ := l.run I'; exact ⟨σ', H2, I2, q2⟩
    | ret u => obtain ⟨v, σ', H', I', rv, l⟩ := z; obtain ⟨H2, I2, q2⟩ := l.run I'; exact ⟨v, σ', H2, I2, rv, q2⟩⟩
/-- a new list or dict becomes a slot's value -/
theorem setFv_core {i : Nat} {D : Ends} {σ : L2.St} {H : Hp} (q : tS tb Φ S (.set i a) D σ H) : tF tb Φ S a σ H (fun v H1 => gName i v σ H1 fun σ H => LockQ (D.nx σ) H) := by
  obtain ⟨B, ι, e, h, r, q⟩ := q
  obtain ⟨d, h', eq, q⟩ := st_ok q
  exact ⟨ι, e, h, r.rl, d, h', eq, fun ι' H' p hp ni g rl c => F_rep r.rl hp ni g rl c fun H2 g2 rl2 rp => q ι' _ H2 ((r.step g2 rl2).setVal rp)⟩
theorem s_retF (ha : PE X e (tF tb Φ S a)) : PS X (.Return (some e) pos) (tS tb Φ S (.retF a)) :=
  PS.imp (ps_ret ha) fun D σ H ⟨B, ι, e, h, r, q⟩ => by
    obtain ⟨d, h', eq, q⟩ := st_ok q
    obtain ⟨q1, q⟩ : ∃ _ : freshD d = true, OutS S B D (.rtF d h') := by
      split at q
      · exact ⟨by assumption, q⟩
      · exact q.elim
    exact ⟨ι, e, h, r.rl, d, h', eq, fun ι' H' p hp ni g rl c => q ι' e σ H' p ⟨rl, r.go.trans g, r.m0, r.rl.h0P hp, ni, c⟩⟩
theorem s_retO {i : Nat} (G : Gs tb Φ x N j S X) (h1 : N[i]? = some y) (h2 : visB X.env.scope y = true) (h3 : dbgOk y = true) : PS X (.Return (some (.Name y py)) pos) (tS tb Φ S (.retO i)) :=
  PS.imp (ps_ret (pe_var (show X.N[i]? = some y by rw [G.nm]; exact h1) (visB_of h2) (dbg1 h3) (dbg2 h3))) fun D σ H ⟨B, ι, e, h, r, q⟩ => by
    have q' : OutS S B D (match e[i]? with
      | some (.own d) => if freshD d then O.rtF d h else .no
      | _ => .no) := q
    split at q'
    · rename_i d hd
      split at q'
      · obtain ⟨a, qs, z1, z2, c⟩ := r.rl.own i d hd
        have hm : Mu S.M0 ι e σ a := .inr (.inr ⟨i, ⟨d, hd⟩, qs⟩)
        have sub : ∀ b, Mu (SP1 S a).M0 ι e σ b → Mu S.M0 ι e σ b := fun b m => (SP1.mu.mp m).elim (fun z => z) fun z => by rw [z]; exact hm
        have gl : Go ι (Mu S.M0 ι e σ) H ι (Mu (SP1 S a).M0 ι e σ) H := .less sub
        refine ⟨_, qs, q' ι e σ H a ⟨⟨r.rl.len, fun k d2 z => ?_, fun k d2 z => ?_, r.rl.dist, r.rl.hl, r.rl.hd, fun n d2 z => ?_, r.rl.kept, r.rl.fresh, r.rl.pre, fun b m => r.rl.there (sub b (.inl m))⟩, r.go.trans gl, r.m0, z1, z2, c.go gl fun _ z => z⟩⟩
        · obtain ⟨v, g1, g2⟩ := r.rl.val k d2 z
          exact ⟨v, g1, g2.go gl⟩
        · obtain ⟨b, g1, g2, g3, g4⟩ := r.rl.own k d2 z
          exact ⟨b, g1, g2, g3, g4.go gl fun _ z => z⟩
        · obtain ⟨b, g1, g2⟩ := r.rl.hp n d2 z
          exact ⟨b, g1, g2.go gl fun _ z => z⟩
      · exact q'.elim
    · exact q'.elim
theorem s_unp {is : List Nat} {es : List Expr} {k : Nat} {pt : Pos} (G : Gs tb Φ x N j S X) (h1 : chkNms N X.env.scope is es = true) (h2 : 2 ≤ is.length) (ha : PE X e (tE tb Φ S a)) (hc : isComp e = false) (ht : isTupE e = false) : PS X (.Assign [.Tuple es k pt] e pos) (tS tb Φ S (.unp is a)) := by
  have hK : S.C.K = X.K := by rw [G.C]
  have hg := g_pat (tb := tb) (C := S.C) (p := .tp is) (tg := .Tuple es k pt) (s0 := X.env.scope) hK G.calm (by rw [G.nm]; exact G.nd) (fun y hy => ⟨locB_of hy, .inl (G.fnT y)⟩) (by
    show (chkNms X.N X.env.scope is es && decide (2 ≤ is.length)) = true
    rw [G.nm, h1, decide_eq_true h2]; rfl)
  refine PS.imp (ps_asg ha hg (show swapsWithSole [.Tuple es k pt] e pos.line X.env = pure false from comp_sw (t := some (.Tuple es k pt)) (l := pos.line) (env := X.env) hc) (by cases e <;> first | rfl | cases ht)) fun D σ H ⟨B, ι, e, h, r, q⟩ => ?_
  obtain ⟨d, h', eq, q⟩ := st_ok q
  refine ⟨ι, e, h, r.rl, d, h', eq, fun ι' H' v g rl rp => ?_⟩
  have r' := r.step g rl
  cases hb : bindP (.tp is) d e with
  | none => rw [hb] at q; exact q.elim
  | some e' =>
    rw [hb] at q
    exact ⟨S, ι', e, h', d, e', rfl, rl, rp, hb, fun σ' rl' ow _ => q ι' σ' H' (r'.less rl' (mu_own ow))⟩
theorem s_aug {i : Nat} {op : Bop} (G : Gs tb Φ x N j S X) (h1 : N[i]? = some y) (h2 : locB X.env.scope y = true) (ha : PE X e (tE tb Φ S a)) : PS X (.AugAssign (.Name y py) (bopOf op) e pos) (tS tb Φ S (.aug i op a)) := by
  have core : ∀ (f : Int → Int → Int), PIp X (bopOf op) (ipI f) → (∀ (x y z : MP.D), augD op x y = some z → ∃ i j, x = .int i ∧ y = .int j ∧ z = .int (f i j)) → PS X (.AugAssign (.Name y py) (bopOf op) e pos) (tS tb Φ S (.aug i op a)) := fun f hi hf =>
    PS.imp (ps_aug (by rw [G.nm]; exact G.nd) (by rw [G.nm]; exact h1) (locB_of h2) ha hi (.inl (G.fnT y))) fun D σ H ⟨B, ι, e, h, r, q⟩ => by
      have q' : OutS S B D (match e[i]? with
        | some (.val x) => (ev tb Φ a e h).st e fun y h => (match augD op x y with
          | some z => .nx (e.set i (.val z)) h
          | none => .no)
        | _ => .no) := q
      split at q'
      · rename_i x hx
        obtain ⟨v, hv, rv⟩ := r.rl.val i _ hx
        obtain ⟨d, h', eq, q2⟩ := st_ok q'
        refine ⟨_, hv, ι, e, h, r.rl, d, h', eq, fun ι' H' v' g rl rp => ?_⟩
        cases hz : augD op x d with
        | none => rw [hz] at q2; exact q2.elim
        | some z =>
          rw [hz] at q2
          obtain ⟨i1, j1, rfl, rfl, rfl⟩ := hf _ _ _ hz
          cases rv
          cases rp
          exact ⟨i1, j1, rfl, rfl, q2 ι' _ H' ((r.step g rl).setVal (.int _))⟩
      · exact q'.elim
  have none_ : (∀ x y, augD op x y = none) → PS X (.AugAssign (.Name y py) (bopOf op) e pos) (tS tb Φ S (.aug i op a)) := fun hf =>
    ⟨fun pins s σ H D I ⟨B, ι, e, h, r, q⟩ => by
      have q' : OutS S B D (match e[i]? with
        | some (.val x) => (ev tb Φ a e h).st e fun y h => (match augD op x y with
          | some z => .nx (e.set i (.val z)) h
          | none => .no)
        | _ => .no) := q
      split at q'
      · obtain ⟨d, h', eq, q2⟩ := st_ok q'
        rw [hf] at q2
        exact q2.elim
      · exact q'.elim⟩
  cases op with
  | add => exact core (fun i j => i + j) ip_add fun x y z hz => by cases x <;> cases y <;> cases hz; exact ⟨_, _, rfl, rfl, rfl⟩
  | sub => exact core (fun i j => i - j) ip_sub fun x y z hz => by cases x <;> cases y <;> cases hz; exact ⟨_, _, rfl, rfl, rfl⟩
  | _ => exact none_ fun x y => by cases x <;> cases y <;> rfl
theorem s_ret (ha : PE X e (tE tb Φ S a)) : PS X (.Return (some e) pos) (tS tb Φ S (.ret a)) :=
  PS.imp (ps_ret ha) fun D σ H ⟨B, ι, e, h, r, q⟩ => by
    obtain ⟨d, h', eq, q⟩ := st_ok q
    exact ⟨ι, e, h, r.rl, d, h', eq, fun ι' H' v g rl rp => q ι' e σ H' v (r.step g rl) rp⟩
theorem s_retn : PS X (.Return none pos) (tS tb Φ S .retn) := PS.imp ps_retN fun D σ H ⟨B, ι, e, h, r, q⟩ => q ι e σ H .non r .non
theorem s_brk : PS X (.Break pos) (tS tb Φ S .brk) := PS.imp ps_break fun D σ H ⟨B, ι, e, h, r, q⟩ => q ι σ H r
theorem s_cnt : PS X (.Continue pos) (tS tb Φ S .cnt) := PS.imp ps_continue fun D σ H ⟨B, ι, e, h, r, q⟩ => q ι σ H r
theorem s_pass : PS X (.Pass pos) (tS tb Φ S .pass) := PS.imp ps_pass fun D σ H ⟨B, ι, e, h, r, q⟩ => q ι σ H r
theorem s_never {st : Stmt} : PS X st (tS tb Φ S .never) := PS.imp ps_never fun D σ H ⟨B, ι, e, h, r, q⟩ => q
theorem s_if {tc : T} {ta tu : Ss} {sa sb : List Stmt} (hc : PT X ec (tT tb Φ S tc)) (ha : PSs X sa (tSs tb Φ S ta)) (hb : PSs X sb (tSs tb Φ S tu)) : PS X (.If ec sa sb pos) (tS tb Φ S (.iff tc ta tu)) :=
  PS.imp (ps_if hc ha hb) fun D σ H ⟨B, ι, e, h, r, q⟩ => by
    obtain ⟨t, h', eq, q⟩ := st_ok q
    refine ⟨ι, e, h, r.rl, t, h', eq, fun ι' H' g rl => ?_⟩
    cases t with
    | true => exact ⟨B, ι', e, h', r.step g rl, q⟩
    | false => exact ⟨B, ι', e, h', r.step g rl, q⟩
theorem loopW_succ {cF : Ev → MH → R Bool} {bF : Ev → MH → O} {n : Nat} {e : Ev} {h : MH} {D : Ends} (q : OutS S B D (loopW cF bF n e h)) : ∃ k, n = k + 1 ∧ ∃ t h', cF e h = .ok t h' ∧ (t = false → OutS S B D (.nx e h')) ∧ (t = true → OutS S B { D with nx := fun σ H => ∃ ι e h, RS S B ι e h σ H ∧ OutS S B D (loopW cF bF k e h), ct := fun σ H => ∃ ι e h, RS S B ι e h σ H ∧ OutS S B D (loopW cF bF k e h), bk := D.nx } (bF e h')) := by
  cases n with
  | zero => exact q.elim
  | succ k =>
    refine ⟨k, rfl, ?_⟩
    have q' : OutS S B D (match cF e h with
      | .ok true h => (match bF e h with
        | .nx e h => loopW cF bF k e h
        | .ct e h => loopW cF bF k e h
        | .bk e h => .nx e h
        | o => o)
      | .ok false h => .nx e h
      | .ex c fs h => .ex c fs e h
      | .no => .no) := q
    cases hc : cF e h with
    | no => rw [hc] at q'; exact q'.elim
    | ex c fs h' => rw [hc] at q'; exact q'.elim
    | ok t h' =>
      rw [hc] at q'
      refine ⟨t, h', rfl, fun z => by subst z; exact q', fun z => ?_⟩
      subst z
      have q2 : OutS S B D (match bF e h' with
        | .nx e h => loopW cF bF k e h
        | .ct e h => loopW cF bF k e h
        | .bk e h => .nx e h
        | o => o) := q'
      cases hb : bF e h' with
      | nx e2 h2 => rw [hb] at q2; exact fun ι σ H r => ⟨ι, e2, h2, r, q2⟩
      | ct e2 h2 => rw [hb] at q2; exact fun ι σ H r => ⟨ι, e2, h2, r, q2⟩
      | bk e2 h2 => rw [hb] at q2; exact q2
      | rt d h2 => rw [hb] at q2; exact q2
      | rtF d h2 => rw [hb] at q2; exact q2
      | ex c fs e2 h2 => rw [hb] at q2; exact q2
      | no => rw [hb] at q2; exact q2
theorem s_whl {tc : T} {tbd : Ss} {sb : List Stmt} (G : Gs tb Φ x N j S X) (hc : PT X ec (tT tb Φ S tc)) (hb : PSs X sb (tSs tb Φ S tbd)) : PS X (.While ec sb [] pos) (tS tb Φ S (.whl tc tbd)) :=
  PS.imp (ps_while G.own hc hb) fun D σ H ⟨B, ι, e, h, r, q⟩ => by
    refine ⟨fun m σ H => ∃ ι e h, RS S B ι e h σ H ∧ OutS S B D (loopW (fun e h => evT tb Φ tc e h) (fun e h => execs tb Φ tbd e h) m e h), ⟨tb.N, ι, e, h, r, q⟩, ?_⟩
    rintro m σ1 H1 ⟨ι1, e1, h1, r1, q1⟩
    obtain ⟨k, rfl, t, h', ht, qf, qt⟩ := loopW_succ q1
    refine ⟨ι1, e1, h1, r1.rl, t, h', ht, fun ι2 H2 g rl => ?_⟩
    cases t with
    | false => exact qf rfl ι2 σ1 H2 (r1.step g rl)
    | true =>
      rw [if_pos rfl]
      exact ⟨_, fun σ' H' z => ⟨k, Nat.lt_succ_self k, z⟩, B, ι2, e1, h', r1.step g rl, qt rfl⟩
theorem loopF_out {B' : Bp} (g : Go B.i B.M B.H B'.i B'.M B'.H) {fF : D → Ev → MH → O} {d : D} {l : List D} {e : Ev} {h : MH} {D : Ends} (q : OutS S B D (loopF fF (d :: l) e h)) : OutS S B' { D with nx := fun σ H => ∃ ι e h, RS S B' ι e h σ H ∧ OutS S B D (loopF fF l e h), ct := fun σ H => ∃ ι e h, RS S B' ι e h σ H ∧ OutS S B D (loopF fF l e h), bk := D.nx } (fF d e h) := by
  have q' : OutS S B D (match fF d e h with
    | .nx e h => loopF fF l e h
    | .ct e h => loopF fF l e h
    | .bk e h => .nx e h
    | o => o) := q
  cases hb : fF d e h with
  | nx e2 h2 => rw [hb] at q'; exact fun ι σ H r => ⟨ι, e2, h2, r, q'⟩
  | ct e2 h2 => rw [hb] at q'; exact fun ι σ H r => ⟨ι, e2, h2, r, q'⟩
  | bk e2 h2 => rw [hb] at q'; exact fun ι σ H r => q' ι σ H ⟨r.rl, g.trans r.go, r.m0⟩
  | rt d h2 => rw [hb] at q'; exact fun ι e σ H v r => q' ι e σ H v ⟨r.rl, g.trans r.go, r.m0⟩
  | rtF d h2 => rw [hb] at q'; exact fun ι e σ H p r => q' ι e σ H p ⟨r.rl, g.trans r.go, r.m0, r.h0, r.ni, r.c⟩
  | ex c fs e2 h2 => rw [hb] at q'; exact q'
  | no => rw [hb] at q'; exact q'
theorem s_for {pt : Pat} {it : It} {tbd : Ss} {tg iter : Expr} {sb : List Stmt} (G : Gs tb Φ x N j S X) (hg : chkP N X.env.scope pt tg = true) (hp : plainA iter = true) (hi : PI X tg iter (tI tb Φ S it)) (hb : PSs X sb (tSs tb Φ S tbd)) : PS X (.For tg iter sb [] pos) (tS tb Φ S (.forr pt it tbd)) := by
  have hK : S.C.K = X.K := by rw [G.C]
  have hpg := g_pat (tb := tb) (C := S.C) (p := pt) (tg := tg) (s0 := X.env.scope) hK G.calm (by rw [G.nm]; exact G.nd) (fun y hy => ⟨locB_of hy, .inl (G.fnT y)⟩) (by rw [G.nm]; exact hg)
  refine PS.imp (ps_for G.own G.calm hi hpg hb (plain_fold hp X.env)) fun D σ H ⟨B, ι, e, h, r, q⟩ => ?_
  have q' : OutS S B D (if ownIt e it then .no else (evI tb Φ it e h).st e fun ds h => loopF (fun d e h => (match bindP pt d e with
    | some e => execs tb Φ tbd e h
    | none => .no)) ds e h) := q
  split at q'
  · exact q'.elim
  · obtain ⟨ds, h1, eq, q1⟩ := st_ok q'
    refine ⟨ι, e, h, r.rl, ds, h1, eq, fun ι1 H1 J g1 rl1 wk => ?_⟩
    -- the loop
    have r1 := r.step g1 rl1
    refine ⟨fun i m σ' H' => m = ds.length - i ∧ i ≤ ds.length ∧ ∃ ι' e' h', RS S ⟨ι1, Mu S.M0 ι1 e σ, H1⟩ ι' e' h' σ' H' ∧ OutS S B D (loopF (fun d e h => (match bindP pt d e with
      | some e => execs tb Φ tbd e h
      | none => .no)) (ds.drop i) e' h'), ⟨_, rfl, Nat.zero_le _, ι1, e, h1, ⟨rl1, .refl, r.m0⟩, q1⟩, ?_⟩
    rintro i m σ2 H2 ⟨rfl, hi, ι2, e2, h2, r2, q2⟩
    have w := wk _ _ _ r2.go i
    by_cases hlt : i < ds.length
    · rw [List.drop_eq_getElem_cons hlt] at q2
      have q3 := loopF_out (B' := ⟨ι1, Mu S.M0 ι1 e σ, H1⟩) r1.go q2
      obtain ⟨go, yl⟩ := w.1 _ (List.getElem?_eq_getElem hlt)
      refine .inr ⟨go, fun σ' H' => ∃ ι' e' h', RS S ⟨ι1, Mu S.M0 ι1 e σ, H1⟩ ι' e' h' σ' H' ∧ OutS S B D (loopF (fun d e h => (match bindP pt d e with
        | some e => execs tb Φ tbd e h
        | none => .no)) (ds.drop (i + 1)) e' h'), fun σ' H' z => ⟨ds.length - (i + 1), by omega, rfl, hlt, z⟩, fun v H3 hy => ?_⟩
      obtain ⟨sm, rv⟩ := yl v H3 hy
      have r3 := r2.step (.same sm) (r2.rl.grow sm)
      cases hb : bindP pt ds[i] e2 with
      | none => simp only [hb] at q3; exact q3.elim
      | some e3 =>
        simp only [hb] at q3
        refine ⟨S, ι2, e2, h2, _, e3, rfl, r3.rl, rv, hb, fun σ' rl' ow _ => ?_⟩
        refine ⟨⟨ι1, Mu S.M0 ι1 e σ, H1⟩, ι2, e3, h2, r3.less rl' (mu_own ow), ?_⟩
        exact q3
    · have e0 : i = ds.length := by omega
      subst e0
      rw [List.drop_length] at q2
      exact .inl ⟨w.2 (Nat.le_refl _), q2 ι2 σ2 H2 ⟨r2.rl, r1.go.trans r2.go, r2.m0⟩⟩
theorem loopR_out {B' : Bp} (g : Go B.i B.M B.H B'.i B'.M B'.H) {get : MH → Option (List D)} {fF : D → Ev → MH → O} {n i : Nat} {e : Ev} {h : MH} {D : Ends} (q : OutS S B D (loopR get fF n i e h)) : ∃ l, get h = some l ∧
    ((l.length ≤ i ∧ OutS S B D (.nx e h)) ∨ ∃ m d, n = m + 1 ∧ l[i]? = some d ∧ OutS S B' { D with nx := fun σ H => ∃ ι e h, RS S B' ι e h σ H ∧ OutS S B D (loopR get fF m (i + 1) e h), ct := fun σ H => ∃ ι e h, RS S B' ι e h σ H ∧ OutS S B D (loopR get fF m (i + 1) e h), bk := D.nx } (fF d e h)) := by
  cases n with
  | zero =>
    have q' : OutS S B D (match get h with
      | some l => if l.length ≤ i then O.nx e h else .no
      | none => .no) := q
    cases hg : get h with
    | none => rw [hg] at q'; exact q'.elim
    | some l =>
      rw [hg] at q'
      refine ⟨l, rfl, .inl ?_⟩
      have q2 : OutS S B D (if l.length ≤ i then O.nx e h else .no) := q'
      split at q2
      · exact ⟨by assumption, q2⟩
      · exact q2.elim
  | succ m =>
    have q' : OutS S B D (match get h with
      | some l => (match l[i]? with
        | some d => (match fF d e h with
          | .nx e h => loopR get fF m (i + 1) e h
          | .ct e h => loopR get fF m (i + 1) e h
          | .bk e h => .nx e h
          | o => o)
        | none => .nx e h)
      | none => .no) := q
    cases hg : get h with
    | none => rw [hg] at q'; exact q'.elim
    | some l =>
      rw [hg] at q'
      refine ⟨l, rfl, ?_⟩
      cases hd : l[i]? with
      | none =>
        have q2 : OutS S B D (match l[i]? with
          | some d => (match fF d e h with
            | .nx e h => loopR get fF m (i + 1) e h
            | .ct e h => loopR get fF m (i + 1) e h
            | .bk e h => .nx e h
            | o => o)
          | none => .nx e h) := q'
        rw [hd] at q2
        exact .inl ⟨List.getElem?_eq_none_iff.mp hd, q2⟩
      | some d =>
        have q2 : OutS S B D (match l[i]? with
          | some d => (match fF d e h with
            | .nx e h => loopR get fF m (i + 1) e h
            | .ct e h => loopR get fF m (i + 1) e h
            | .bk e h => .nx e h
            | o => o)
          | none => .nx e h) := q'
        rw [hd] at q2
        refine .inr ⟨m, d, rfl, rfl, ?_⟩
        have q3 : OutS S B D (match fF d e h with
          | .nx e h => loopR get fF m (i + 1) e h
          | .ct e h => loopR get fF m (i + 1) e h
          | .bk e h => .nx e h
          | o => o) := q2
        cases hb : fF d e h with
        | nx e2 h2 => rw [hb] at q3; exact fun ι σ H r => ⟨ι, e2, h2, r, q3⟩
        | ct e2 h2 => rw [hb] at q3; exact fun ι σ H r => ⟨ι, e2, h2, r, q3⟩
        | bk e2 h2 => rw [hb] at q3; exact fun ι σ H r => q3 ι σ H ⟨r.rl, g.trans r.go, r.m0⟩
        | rt d h2 => rw [hb] at q3; exact fun ι e σ H v r => q3 ι e σ H v ⟨r.rl, g.trans r.go, r.m0⟩
        | rtF d h2 => rw [hb] at q3; exact fun ι e σ H p r => q3 ι e σ H p ⟨r.rl, g.trans r.go, r.m0, r.h0, r.ni, r.c⟩
        | ex c fs e2 h2 => rw [hb] at q3; exact q3
        | no => rw [hb] at q3; exact q3
theorem s_forR {pt : Pat} {m : M} {tbd : Ss} {tg iter : Expr} {sb : List Stmt} (G : Gs tb Φ x N j S X) (hg : chkP N X.env.scope pt tg = true) (hp : plainA iter = true) (hi : PE X iter (tE tb Φ S m)) (hb : PSs X sb (tSs tb Φ S tbd)) : PS X (.For tg iter sb [] pos) (tS tb Φ S (.forR pt m tbd)) := by
  have hK : S.C.K = X.K := by rw [G.C]
  have hpg := g_pat (tb := tb) (C := S.C) (p := pt) (tg := tg) (s0 := X.env.scope) hK G.calm (by rw [G.nm]; exact G.nd) (fun y hy => ⟨locB_of hy, .inl (G.fnT y)⟩) (by rw [G.nm]; exact hg)
  refine PS.imp (ps_for G.own G.calm (pi_seq hi) hpg hb (plain_fold hp X.env)) fun D σ H ⟨B, ι, e, h, r, q⟩ => ?_
  obtain ⟨xv, h1, eq, q1⟩ := st_ok q
  cases hv : (view xv h1).bind seqD with
  | none => simp only [hv] at q1; exact q1.elim
  | some ds =>
  simp only [hv] at q1
  refine ⟨ι, e, h, r.rl, xv, h1, eq, fun ι1 H1 v1 g1 rl1 rp1 => ?_⟩
  obtain ⟨a0, rfl, _, kd⟩ := now_at rl1 rp1 hv
  have r1 := r.step g1 rl1
  have main : ∃ W : Nat → Nat → L2.St → Hp → Prop, (∃ m, W 0 m σ H1) ∧ ∀ i m σ H, W i m σ H → ((Jx S.C.K xv a0).stop i H ∧ D.nx σ H) ∨ ((Jx S.C.K xv a0).go i H ∧ ∃ Nx : L2.St → Hp → Prop, (∀ σ' H', Nx σ' H' → ∃ m', m' < m ∧ W (i + 1) m' σ' H') ∧
      ∀ v H', (Jx S.C.K xv a0).yld i H v H' → tG tb S.C pt v σ H' fun σ2 H2 => tSs tb Φ S tbd { D with nx := Nx, ct := Nx, bk := D.nx } σ2 H2) := by
    refine ⟨fun i m σ' H' => ∃ ι' e' h', RS S ⟨ι1, Mu S.M0 ι1 e σ, H1⟩ ι' e' h' σ' H' ∧ OutS S B D (loopR (fun h => (view xv h).bind seqD) (fun d e h => (match bindP pt d e with
      | some e => execs tb Φ tbd e h
      | none => .no)) m i e' h'), ⟨ds.length, ι1, e, h1, ⟨rl1, .refl, r.m0⟩, q1⟩, ?_⟩
    rintro i m σ2 H2 ⟨ι2, e2, h2, r2, q2⟩
    have rr := rp1.go r2.go
    obtain ⟨l, hl, q3⟩ := loopR_out (B' := ⟨ι1, Mu S.M0 ι1 e σ, H1⟩) r1.go q2
    obtain ⟨a', ea, w, _⟩ := now_at r2.rl rr hl
    cases ea
    rcases q3 with ⟨hle, q3⟩ | ⟨m', d, rfl, hd, q3⟩
    · exact .inl ⟨w.stop i hle, q3 ι2 σ2 H2 ⟨r2.rl, r1.go.trans r2.go, r2.m0⟩⟩
    · obtain ⟨go, yl⟩ := w.go i d hd
      refine .inr ⟨go, fun σ' H' => ∃ ι' e' h', RS S ⟨ι1, Mu S.M0 ι1 e σ, H1⟩ ι' e' h' σ' H' ∧ OutS S B D (loopR (fun h => (view xv h).bind seqD) (fun d e h => (match bindP pt d e with
        | some e => execs tb Φ tbd e h
        | none => .no)) m' (i + 1) e' h'), fun σ' H' z => ⟨m', Nat.lt_succ_self m', z⟩, fun v H3 hy => ?_⟩
      obtain ⟨sm, rv⟩ := yl v H3 hy
      have r3 := r2.step (.same sm) (r2.rl.grow sm)
      cases hb : bindP pt d e2 with
      | none => simp only [hb] at q3; exact q3.elim
      | some e3 =>
        simp only [hb] at q3
        exact ⟨S, ι2, e2, h2, _, e3, rfl, r3.rl, rv, hb, fun σ' rl' ow _ => ⟨⟨ι1, Mu S.M0 ι1 e σ, H1⟩, ι2, e3, h2, r3.less rl' (mu_own ow), q3⟩⟩
  rcases kd with ⟨ej, xs, hs⟩ | ⟨ej, xs, hs⟩
  · rw [ej] at main
    exact ⟨a0, rfl, .inl ⟨xs, by rw [← hK]; exact hs, by rw [← hK]; exact main⟩⟩
  · rw [ej] at main
    exact ⟨a0, rfl, .inr ⟨xs, by rw [← hK]; exact hs, by rw [← hK]; exact main⟩⟩
end
end MP

set_option maxRecDepth 100000
set_option maxHeartbeats 1000000
/-! MP22: append, fields stored, comprehensions stored; all statements. -/
namespace MP
open PySem PySem.Spec PyProof.Rows L2

section
variable {tb : Tb} {Φ : Nat → List D → MH → R D} {x : Tx} {N : List Str} {j : Nat} {S : SC} {B : Bp} {X : Cx} {e ea eb ec : Expr} {a b c m : M} {pos p p2 py : Pos} {y : Str}
theorem s_app {i : Nat} {ap cp : Pos} (G : Gs tb Φ x N j S X) (h1 : N[i]? = some y) (h2 : visB X.env.scope y = true) (h3 : dbgOk y = true) (hp : plainA e = true) (hl : (ap.endLine == cp.line) = true) (ha : PE X e (tE tb Φ S a)) :
    PS X (.Expr (.Call (.Attribute (.Name y py) "append" ap) [e] [] cp) pos) (tS tb Φ S (.app i a)) := by
  have ho := e_var (pos := py) G.toGd rfl h1 h2 h3
  have hf : ((backTo cp (starEach [e] X.env)).all (fun x => !x.1) && (backToKw cp (keywordEach [] X.env)).all (fun x => x.1.isSome)
      && decide ([e].length + ([] : List Keyword).length + (if ([] : List Keyword).isEmpty then 0 else 1) < 30)) = true := by
    rw [plain_star hp]; rfl
  refine PS.imp (ps_expr (pe_bm (T := "list") (id := "list.append") F.plainAttrs_list F.slot_list_append F.type_list_append mt_append ho (pa_cons ha pa_nil (plain_star hp)) rfl hf hl (plain_star hp) rfl) rfl) fun D σ H ⟨B, ι, e, h, r, q⟩ => ?_
  obtain ⟨d, h', eq, q⟩ := st_ok q
  have hi : ∃ l, e[i]? = some (.own (.lst l)) ∧ l.length < lim ∧ OutS S B D (.nx (e.set i (.own (.lst (l ++ [d])))) h') := by
    have q' : OutS S B D (match e[i]? with
      | some (.own (.lst l)) => if l.length < lim then .nx (e.set i (.own (.lst (l ++ [d])))) h' else .no
      | _ => .no) := q
    split at q'
    · rename_i l hl
      split at q'
      · exact ⟨l, hl, by assumption, q'⟩
      · exact q'.elim
    · exact q'.elim
  obtain ⟨l, hel, hlim, q⟩ := hi
  refine ⟨ι, e, h, r.rl, .own i, h, ?_, fun ι1 H1 v1 g1 rl1 r1 => ?_⟩
  · show (match e[i]? with
      | some (.val d) => R.ok (.d d) h
      | some (.own _) => R.ok (Od.own i) h
      | _ => R.no) = R.ok (.own i) h
    rw [hel]
  · have r1' : σ[i]? = some (some v1) := r1
    obtain ⟨ad, o1, o2, o3, o4⟩ := rl1.own i _ hel
    rw [o1] at r1'
    cases r1'
    cases o4 with
    | lst hh hr =>
      refine ⟨.inl ⟨rfl, _, SqL.of hh⟩, ι1, e, h, rl1, d, h', eq, fun ι2 H2 v2 g2 rl2 r2 => ?_⟩
      obtain ⟨ad', p1, p2, p3, p4⟩ := rl2.own i _ hel
      rw [o1] at p1
      cases p1
      cases p4 with
      | lst hh2 hr2 =>
        refine ⟨ad, _, v2, rfl, rfl, hh2, by rw [hr2.length]; exact Nat.lt_of_lt_of_le hlim (by decide), ?_⟩
        have r' := (r.step g1 rl1).step g2 rl2
        have hm : Mu S.M0 ι2 e σ ad := .inr (.inr ⟨i, ⟨_, hel⟩, o1⟩)
        exact q ι2 σ _ (r'.ownSet hel o1 (.lst upd_same ((hr2.snoc r2).go (Go.write hm))))
theorem RepFs.put {C : RC} {ι : List Addr} {M : Addr → Prop} {H : Hp} {f : Str} {v : V} {d : D} (r : Rep C ι M H v d) : ∀ {fs : List (Str × D)} {vfs : List (Str × V)}, RepFs C ι M H vfs fs → RepFs C ι M H (putF f v vfs) (fput f d fs)
  | _, _, .nil => .cons r .nil
  | (y, d0) :: fs, _, .cons (v := v0) (vs := vs) r0 rs => by
    unfold putF fput
    by_cases e : y = f
    · rw [if_pos e, if_pos e]; exact .cons r rs
    · rw [if_neg e, if_neg e]; exact .cons r0 (RepFs.put r rs)
theorem RepFs.length {C : RC} {ι : List Addr} {M : Addr → Prop} {H : Hp} : ∀ {fs : List (Str × D)} {vfs : List (Str × V)}, RepFs C ι M H vfs fs → vfs.length = fs.length
  | _, _, .nil => rfl
  | _, _, .cons _ rs => congrArg (· + 1) rs.length
/-- a shared object is changed -/
theorem RS.refSet {ι : List Addr} {e : Ev} {h : MH} {σ : L2.St} {H : Hp} {n : Nat} {ad : Addr} {d' : D} {o : HO} (r : RS S B ι e h σ H) (q : ι[n]? = some ad) (c : ContAt S.C ι (Mu S.M0 ι e σ) (upd H ad o) ad d') : RS S B ι e (h.set n d') σ (upd H ad o) := by
  have rl := r.rl
  have hin : ad ∈ ι := List.mem_of_getElem? q
  have hm : Mu S.M0 ι e σ ad := .inr (.inl hin)
  have g : Go ι (Mu S.M0 ι e σ) H ι (Mu S.M0 ι e σ) (upd H ad o) := Go.write hm
  refine ⟨⟨rl.len, fun k d2 z => ?_, fun k d2 z => ?_, rl.dist, by rw [List.length_set]; exact rl.hl, rl.hd, fun k d2 z => ?_, fun b u z w => ?_, rl.fresh, rl.pre, fun b m => ?_⟩, r.go.trans g, r.m0⟩
  · obtain ⟨v, h1, h2⟩ := rl.val k d2 z
    exact ⟨v, h1, h2.go g⟩
  · obtain ⟨b, h1, h2, h3, h4⟩ := rl.own k d2 z
    have hb : b ≠ ad := fun y => h3 (y ▸ hin)
    exact ⟨b, h1, h2, h3, h4.go g fun u hu => by rw [upd_ne hb]; exact hu⟩
  · rcases set_some z with ⟨rfl, w, _⟩ | ⟨hk, z⟩
    · cases w; exact ⟨ad, q, c⟩
    · obtain ⟨b, h1, h2⟩ := rl.hp k d2 z
      have hb : b ≠ ad := fun y => by
        subst y
        have hlt : k < ι.length := by
          by_cases w : k < ι.length
          · exact w
          · rw [List.getElem?_eq_none (by omega)] at h1; cases h1
        exact hk ((List.getElem?_inj hlt rl.hd).mp (h1.trans q.symm))
      exact ⟨b, h1, h2.go g fun u hu => by rw [upd_ne hb]; exact hu⟩
  · have hb : b ≠ ad := fun y => by
      subst y
      rcases rl.fresh b hin with v | v
      · exact w v
      · rw [z] at v; cases v
    rw [upd_ne hb]; exact rl.kept b u z w
  · obtain ⟨u, hu⟩ := rl.mz b m
    by_cases hb : b = ad
    · subst hb; exact ⟨_, upd_same⟩
    · exact ⟨u, by rw [upd_ne hb]; exact hu⟩
theorem s_satt {f : Str} {o v : M} {eo ev : Expr} (G : Gs tb Φ x N j S X) (ho : PE X eo (tE tb Φ S o)) (hv : PE X ev (tE tb Φ S v)) (hc : isComp ev = false) : PS X (.Assign [.Attribute eo f p2] ev pos) (tS tb Φ S (.satt o f v)) := by
  have hca : S.C.ca = x.ca := by rw [G.C]
  have hK : S.C.K = X.K := by rw [G.C]
  refine PS.imp (ps_fld ho hv (comp_sw hc)) fun D σ H ⟨B, ι, e, h, r, q⟩ => ?_
  obtain ⟨dy, h1, e1, q⟩ := st_ok q
  obtain ⟨dr, h2, e2, q⟩ := st_ok q
  refine ⟨ι, e, h, r.rl, dy, h1, e1, fun ι1 H1 v1 g1 rl1 r1 => ⟨ι1, e, h1, rl1, dr, h2, e2, fun ι2 H2 v2 g2 rl2 r2 => ?_⟩⟩
  cases dr <;> first | (exact q.elim) | skip
  rename_i n
  have q' : OutS S B D (match h2[n]? with
    | some (.ins c fs) => if (decide (fs.length < 900) && tb.fld c f) = true then .nx e (h2.set n (.ins c (fput f dy fs))) else .no
    | _ => .no) := q
  split at q'
  · rename_i c fs hn
    split at q'
    · rename_i hcond
      obtain ⟨c1, c2⟩ := and2 hcond
      cases r2 with
      | ref hr =>
        obtain ⟨ad, a1, a2⟩ := rl2.hp n _ hn
        rw [hr] at a1
        cases a1
        cases a2 with
        | ins b1 b2 =>
          refine ⟨_, _, _, _, rfl, b1, ?_, ?_, ?_, ?_⟩
          · rw [hca, ← hK]; exact (G.tx.cls c).cl
          · rw [hca, ← hK]; exact G.tx.fld c f c2
          · have := of_decide_eq_true c1
            rw [b2.length]; omega
          · have r' := (r.step g1 rl1).step g2 rl2
            exact q' ι2 σ _ (r'.refSet hr (.ins upd_same ((RepFs.put (r1.go g2) b2).go (Go.write (.inr (.inl (List.mem_of_getElem? hr)))))))
    · exact q'.elim
  · exact q'.elim
/-- name = [..] on one line -/
theorem setLc_gen (np : ∀ f ds h d h', Φ f ds h = R.ok d h' → ds.length = (x.fps f).length) {i : Nat} {ws : List Nat} {elt : M} {pt : Pat} {it : It} {cs : Ts} {gs : List Comprehension} {scope : Scope} {ee : Expr} {lp : Pos} (G : Gs tb Φ x N j S X) (h1 : N[i]? = some y) (hsw : swB X.env.scope y py (.ListComp ee gs scope lp) = true)
    (h : chk x N X.env.scope (.lc ws elt pt it cs) (.ListComp ee gs scope lp) = true) : PS X (.Assign [.Name y py] (.ListComp ee gs scope lp) pos) (tAsg (tF tb Φ S (.lc ws elt pt it cs)) (gName i)) := by
  obtain ⟨ee', tg, iter, ifs, scope', pos', e0, k1, k2, k3, k4, k5, k6⟩ := i_lc h
  cases e0
  obtain ⟨hy, sw⟩ := lc_sw2 (l := pos.line) G.kind hsw
  have hK : S.C.K = X.K := by rw [G.C]
  refine PS.imp (ps_setLc (own := ownL N ws) (g := tG tb S.C pt) (tt := xC tb Φ S.C cs) (te := xE tb Φ S.C elt) G.calm (by rw [G.nm]; exact G.nd) (by rw [G.nm]; exact h1) hy sw (pi_ok np it X S tg iter _ G.toGd rfl k4) (blkOk_by (by rw [G.nm]; exact k1)) (fun s H C cl fp => ?_) (fun s H C cl fp => ?_) (fun s H C cl fp => ?_) (plain_fold k3 X.env)) fun D σ H q => ?_
  · exact g_pat hK G.calm (show X.N.Nodup by rw [G.nm]; exact G.nd) (fun y => blk_loc y) (show chkP X.N scope pt tg = true by rw [G.nm]; exact k2)
  · exact PTs.ex fun S' hS => pts_ok np cs _ S' ifs _ ((G.toGd.sc hS).blk s H scope _ fp) rfl k5
  · exact PE.ex fun S' hS => (pe_ok np elt _ S' ee _ ((G.toGd.sc hS).blk s H scope _ fp) rfl k6).1
  · rw [ownL_snd]
    exact lc_read q
theorem setLcR_gen (np : ∀ f ds h d h', Φ f ds h = R.ok d h' → ds.length = (x.fps f).length) {i : Nat} {ws : List Nat} {elt : M} {pt : Pat} {m : M} {cs : Ts} {gs : List Comprehension} {scope : Scope} {ee : Expr} {lp : Pos} (G : Gs tb Φ x N j S X) (h1 : N[i]? = some y) (hsw : swB X.env.scope y py (.ListComp ee gs scope lp) = true)
    (h : chk x N X.env.scope (.lcR ws elt pt m cs) (.ListComp ee gs scope lp) = true) : PS X (.Assign [.Name y py] (.ListComp ee gs scope lp) pos) (tAsg (tF tb Φ S (.lcR ws elt pt m cs)) (gName i)) := by
  obtain ⟨ee', tg, iter, ifs, scope', pos', e0, k1, k2, k3, k4, k5, k6⟩ := i_lcR h
  cases e0
  obtain ⟨hy, sw⟩ := lc_sw2 (l := pos.line) G.kind hsw
  have hK : S.C.K = X.K := by rw [G.C]
  refine PS.imp (ps_setLc (own := ownL N ws) (g := tG tb S.C pt) (tt := xC tb Φ S.C cs) (te := xE tb Φ S.C elt) G.calm (by rw [G.nm]; exact G.nd) (by rw [G.nm]; exact h1) hy sw (pi_seq (pe_ok np m X S iter _ G.toGd rfl k4).1) (blkOk_by (by rw [G.nm]; exact k1)) (fun s H C cl fp => ?_) (fun s H C cl fp => ?_) (fun s H C cl fp => ?_) (plain_fold k3 X.env)) fun D σ H q => ?_
  · exact g_pat hK G.calm (show X.N.Nodup by rw [G.nm]; exact G.nd) (fun y => blk_loc y) (show chkP X.N scope pt tg = true by rw [G.nm]; exact k2)
  · exact PTs.ex fun S' hS => pts_ok np cs _ S' ifs _ ((G.toGd.sc hS).blk s H scope _ fp) rfl k5
  · exact PE.ex fun S' hS => (pe_ok np elt _ S' ee _ ((G.toGd.sc hS).blk s H scope _ fp) rfl k6).1
  · rw [ownL_snd, ← hK]
    exact lcR_read q
/-- name = {k: v ..} on one line -/
theorem ps_setDc {i : Nat} {kx vx tg iter : Expr} {ifs : List Expr} {scope : Scope} {own : List (Str × Nat)} {lp : Pos} {wi : TI} {g : TG} {tt : TT} {tk tv : TE} (hc : X.calm = true) (hN : X.N.Nodup) (hy : X.N[i]? = some y) (hyl : X.env.scope.names.lookup y = some .local)
    (hsw : swapsWith (.DictComp kx vx [⟨tg, iter, ifs, 0⟩] scope lp) (some (.Name y py)) pos.line X.env = pure true) (hi : PI X tg iter wi) (ok : BlkOk X.N X.env.scope scope own)
    (hg : ∀ (s : Shared) (H : Hp) (C : Addr) (cl : List (Str × Addr)) (fp : List Addr), PG (X.blk s H scope (compEnvC scope cl C X.env) fp) tg g) (ht : ∀ (s : Shared) (H : Hp) (C : Addr) (cl : List (Str × Addr)) (fp : List Addr), PTs (X.blk s H scope (compEnvC scope cl C X.env) fp) ifs tt)
    (hk : ∀ (s : Shared) (H : Hp) (C : Addr) (cl : List (Str × Addr)) (fp : List Addr), PE (X.blk s H scope (compEnvC scope cl C X.env) fp) kx tk) (hv : ∀ (s : Shared) (H : Hp) (C : Addr) (cl : List (Str × Addr)) (fp : List Addr), PE (X.blk s H scope (compEnvC scope cl C X.env) fp) vx tv) (hs : ∀ x, foldedSetIterable iter X.env x = pure x) :
    PS X (.Assign [.Name y py] (.DictComp kx vx [⟨tg, iter, ifs, 0⟩] scope lp) pos) (tAsg (tDc wi g tt tk tv (own.map (·.2))) (gName i)) := by
  refine ⟨fun pins s σ H D I h => ?_⟩
  rw [exec_Assign_Name_used _ _ _ _ hsw]
  refine wpAny_bind (wpAny_standAt (wpAny_bind ?_))
  have h : tDc wi g tt tk tv (own.map (·.2)) σ H (fun v H1 => gName i v σ H1 D.nx) := h
  refine wpAny_bind (thn (dc_core (use := some (assign (.Name y py) X.env)) (Qf := fun _ s' => SP X pins D .next s') hc hN I hi ok hg ht hk hv hs h fun L C s' m H' I' q hn f => ?_) fun _ s' hq => wpAny_pure (wpAny_pure hq))
  obtain ⟨f0, f1, f2, f3, f4, f5⟩ := f
  refine (show wpAny _ _ (assign (.Name y py) X.env (.ref L)) _ _ _ from wpAny_assign_Name (store_ok2 (v := V.ref L) I' hN hy (.inl hyl) rfl (fun s2 I2 ⟨ad, sb, ha⟩ => ?_) (.inr hyl)))
  have haC : C ≠ ad := ha.elim (fun z => by rw [z]; exact f1) fun z w => f4 y ad z w.symm
  exact ⟨m, hn.sameBut sb haC, fun h3 sb3 => ⟨_, H', I2.turned (t' := s2.toks) (fun b o hb e => (sb3.2 b hb).trans e) f0 f1 f3 f4 f5, q⟩⟩
theorem dc_sw2 {ke ve : Expr} {gs : List Comprehension} {s : Scope} {q : Pos} {l : Nat} {env : Env} (hk : env.scope.kind = .function) (h : swB env.scope y py (.DictComp ke ve gs s q) = true) : env.scope.names.lookup y = some .local ∧ swapsWith (.DictComp ke ve gs s q) (some (.Name y py)) l env = pure true := by
  obtain ⟨h1, h2, h3⟩ := and3 h
  have hy : env.scope.names.lookup y = some .local := by
    unfold locL at h1
    split at h1
    · assumption
    · cases h1
  refine ⟨hy, ?_⟩
  have ky : env.kindOf y = some .local := hy
  have hb : env.blockKind = .function := by unfold Env.blockKind; rw [hk]; rfl
  have ha := (Bool.not_eq_true' _).mp h3
  unfold swapsWith
  simp only [hb, ky, ha, Expr.pos, h2]
  rfl
theorem setDc_gen (np : ∀ f ds h d h', Φ f ds h = R.ok d h' → ds.length = (x.fps f).length) {i : Nat} {ws : List Nat} {k v : M} {pt : Pat} {it : It} {cs : Ts} {gs : List Comprehension} {scope : Scope} {ke ve : Expr} {lp : Pos} (G : Gs tb Φ x N j S X) (h1 : N[i]? = some y) (hsw : swB X.env.scope y py (.DictComp ke ve gs scope lp) = true)
    (h : chk x N X.env.scope (.dc ws k v pt it cs) (.DictComp ke ve gs scope lp) = true) : PS X (.Assign [.Name y py] (.DictComp ke ve gs scope lp) pos) (tAsg (tF tb Φ S (.dc ws k v pt it cs)) (gName i)) := by
  obtain ⟨ek, ev', tg, iter, ifs, scope', pos', e0, k1, k2, k3, k4, k5, k6, k7⟩ := i_dc h
  cases e0
  obtain ⟨hy, sw⟩ := dc_sw2 (l := pos.line) G.kind hsw
  have hK : S.C.K = X.K := by rw [G.C]
  refine PS.imp (ps_setDc (own := ownL N ws) (g := tG tb S.C pt) (tt := xC tb Φ S.C cs) (tk := xE tb Φ S.C k) (tv := xE tb Φ S.C v) G.calm (by rw [G.nm]; exact G.nd) (by rw [G.nm]; exact h1) hy sw (pi_ok np it X S tg iter _ G.toGd rfl k4) (blkOk_by (by rw [G.nm]; exact k1)) (fun s H C cl fp => ?_) (fun s H C cl fp => ?_) (fun s H C cl fp => ?_) (fun s H C cl fp => ?_) (plain_fold k3 X.env)) fun D σ H q => ?_
  · exact g_pat hK G.calm (show X.N.Nodup by rw [G.nm]; exact G.nd) (fun y => blk_loc y) (show chkP X.N scope pt tg = true by rw [G.nm]; exact k2)
  · exact PTs.ex fun S' hS => pts_ok np cs _ S' ifs _ ((G.toGd.sc hS).blk s H scope _ fp) rfl k5
  · exact PE.ex fun S' hS => (pe_ok np k _ S' _ _ ((G.toGd.sc hS).blk s H scope _ fp) rfl k6).1
  · exact PE.ex fun S' hS => (pe_ok np v _ S' _ _ ((G.toGd.sc hS).blk s H scope _ fp) rfl k7).1
  · rw [ownL_snd]
    exact dc_read q
/-- .. in general: a new list or dict that is named on its line -/
theorem setSw_gen (np : ∀ f ds h d h', Φ f ds h = R.ok d h' → ds.length = (x.fps f).length) {i : Nat} (G : Gs tb Φ x N j S X) (h1 : N[i]? = some y) (hl : isLc e = true) (hsw : swB X.env.scope y py e = true) (h : chk x N X.env.scope a e = true) (hF : isF x a = true) : PS X (.Assign [.Name y py] e pos) (tAsg (tF tb Φ S a) (gName i)) := by
  cases e <;> first | (cases hl; done) | skip
  · cases a <;> first | (exact setLc_gen np G h1 hsw h) | (exact setLcR_gen np G h1 hsw h) | (cases h; done) | (cases hF; done) | (rename_i g; cases g <;> cases h) | (rename_i k _; cases k <;> cases h)
  · cases a <;> first | (exact setDc_gen np G h1 hsw h) | (cases h; done) | (cases hF; done) | (rename_i g; cases g <;> cases h) | (rename_i k _; cases k <;> cases h)
end
end MP

set_option maxRecDepth 100000
set_option maxHeartbeats 1000000
/-! MP22c: items stored, new objects as fields, lists made longer and shorter. -/
namespace MP
open PySem PySem.Spec PyProof.Rows L2
section
variable {tb : Tb} {Φ : Nat → List D → MH → R D} {x : Tx} {N : List Str} {j : Nat} {S : SC} {B : Bp} {X : Cx} {e ea eb ec eo ek ev' : Expr} {a b c m o k v : M} {pos p p2 py p3 ap : Pos} {y z : Str}
theorem sw_sub {e o i : Expr} {q : Pos} {l : Nat} {env : Env} : swapsWith e (some (.Subscript o i q)) l env = pure false := by cases e <;> rfl
theorem sw_att {e o : Expr} {f : Str} {q : Pos} {l : Nat} {env : Env} : swapsWith e (some (.Attribute o f q)) l env = pure false := by cases e <;> rfl
theorem ps_putX {o i value : Expr} {to ti tv : TE} {t : TSet} {pos' : Pos} (ho : PE X o to) (hi : PE X i ti) (hv : PE X value tv) (hset : PSet X t) : PS X (.Assign [.Subscript o i pos'] value pos) (fun D σ H => tv σ H fun v H1 => to σ H1 fun ov H2 => ti σ H2 fun iv H3 => t ov iv v H3 fun H4 => D.nx σ H4) :=
  ⟨fun pins s σ H D I h => wpAny_Assign_Subscript (thn (hv.run pins s σ H _ I h) fun r s1 ⟨vv, H1, I1, rv, q1⟩ => thn (ho.run pins s1 σ H1 _ I1 q1) fun u s2 ⟨vo, H2, I2, ro, q2⟩ => thn (hi.run pins s2 σ H2 _ I2 q2) fun w s3 ⟨vi, H3, I3, ri, q3⟩ =>
    thn (hset pins s3 σ H3 vo vi vv u w r _ I3 ro ri rv q3) fun _ s4 ⟨H4, I4, q4⟩ => ⟨σ, H4, I4, q4⟩) sw_sub⟩
theorem s_put {i : Nat} (G : Gs tb Φ x N j S X) (h1 : N[i]? = some y) (h2 : visB X.env.scope y = true) (h3 : dbgOk y = true) (hk : PE X ek (tE tb Φ S k)) (hv : PE X e (tE tb Φ S v)) : PS X (.Assign [.Subscript (.Name y py) ek p2] e pos) (tS tb Φ S (.put i k v)) := by
  have bo : PSet X (rPut S.C) := by rw [G.C]; exact set_put G.hu
  refine PS.imp (ps_putX (e_var G.toGd rfl h1 h2 h3) hk hv bo) fun D σ H ⟨B, ι, e, h, r, q⟩ => ?_
  obtain ⟨dy, g1, e1, q⟩ := st_ok q
  obtain ⟨dx, g2, e2, q⟩ := st_ok q
  have q' : OutS S B D (match e[i]? with
    | some (.own d) => O.of ((setD d dx dy).map fun d => e.set i (.own d)) g2
    | _ => .no) := q
  split at q'
  · rename_i d hd
    refine ⟨ι, e, h, r.rl, dy, g1, e1, fun ι1 H1 v1 go1 rl1 r1 => ⟨ι1, e, g1, rl1, .own i, g1, ?_, fun ι2 H2 v2 go2 rl2 r2 => ⟨ι2, e, g1, rl2, dx, g2, e2, fun ι3 H3 v3 go3 rl3 r3 => ?_⟩⟩⟩
    · show (match e[i]? with
        | some (.val d) => R.ok (.d d) g1
        | some (.own _) => R.ok (Od.own i) g1
        | _ => R.no) = R.ok (.own i) g1
      rw [hd]
    · have r2' : σ[i]? = some (some v2) := r2
      obtain ⟨ad, o1, o2, o3, o4⟩ := rl3.own i d hd
      rw [o1] at r2'
      cases r2'
      cases hs : setD d dx dy with
      | none => rw [hs] at q'; exact q'.elim
      | some d' =>
        rw [hs] at q'
        have r' := ((r.step go1 rl1).step go2 rl2).step go3 rl3
        have hm : Mu S.M0 ι3 e σ ad := .inr (.inr ⟨i, ⟨d, hd⟩, o1⟩)
        exact ⟨ι3, _, ad, d, dx, dy, d', rfl, o4, r3, r1.go (go2.trans go3), hs, fun o' c => q' ι3 σ _ (r'.ownSet hd o1 (c _ (Go.write hm)))⟩
  · exact q'.elim
theorem s_putS (G : Gs tb Φ x N j S X) (ho : PE X eo (tE tb Φ S o)) (hk : PE X ek (tE tb Φ S k)) (hv : PE X e (tE tb Φ S v)) : PS X (.Assign [.Subscript eo ek p2] e pos) (tS tb Φ S (.putS o k v)) := by
  have bo : PSet X (rPut S.C) := by rw [G.C]; exact set_put G.hu
  refine PS.imp (ps_putX ho hk hv bo) fun D σ H ⟨B, ι, e, h, r, q⟩ => ?_
  obtain ⟨dy, g1, e1, q⟩ := st_ok q
  obtain ⟨dr, g2, e2, q⟩ := st_ok q
  obtain ⟨dx, g3, e3, q⟩ := st_ok q
  refine ⟨ι, e, h, r.rl, dy, g1, e1, fun ι1 H1 v1 go1 rl1 r1 => ⟨ι1, e, g1, rl1, dr, g2, e2, fun ι2 H2 v2 go2 rl2 r2 => ⟨ι2, e, g2, rl2, dx, g3, e3, fun ι3 H3 v3 go3 rl3 r3 => ?_⟩⟩⟩
  cases dr with
  | ref n =>
    have q' : OutS S B D (match (g3[n]?).bind fun d => setD d dx dy with
      | some d => O.nx e (g3.set n d)
      | none => .no) := q
    cases hs : (g3[n]?).bind fun d => setD d dx dy with
    | none => rw [hs] at q'; exact q'.elim
    | some d' =>
      rw [hs] at q'
      obtain ⟨d, hd, hs⟩ := Option.bind_eq_some_iff.mp hs
      have r2' := Rep.go go3 r2
      cases r2' with
      | @ref ad _ hn =>
        obtain ⟨ad', a1, a2⟩ := rl3.hp n d hd
        rw [hn] at a1
        cases a1
        have r' := ((r.step go1 rl1).step go2 rl2).step go3 rl3
        have hm : Mu S.M0 ι3 e σ ad := .inr (.inl (List.mem_of_getElem? hn))
        exact ⟨ι3, _, ad, d, dx, dy, d', rfl, a2, r3, r1.go (go2.trans go3), hs, fun o' c => q' ι3 σ _ (r'.refSet hn (c _ (Go.write hm)))⟩
  | _ => exact q.elim
/-! o[k] = v by an own class -/
def rOwnS (X : Cx) (C : RC) (x : Tx) (Φ : Nat → List D → MH → R D) : TSet := fun o i v H Qn => ∃ a Ca dx fs f, o = .ref a ∧ H a = some (.ins Ca dx fs) ∧ Meth X.K Ca "__setitem__" (x.fa f) ∧ PySem.W.noSeq X.K Ca = true ∧
  spF C (x.fps f).length (x.frs f) (Φ f) [o, i, v] H (fun _ H1 => LockQ Qn H1) fun _ _ _ => False
theorem set_own (G : Gd tb Φ x N j S X) : PSet X (rOwnS X S.C x Φ) := by
  have hK : S.C.K = X.K := by rw [G.C]
  intro pins s σ H o i v ov iv u Qn I ro ri rv ⟨ad, Ca, dx, fs, f, ex, ea, m, nsq, q⟩
  subst ex
  cases ro
  obtain ⟨mA, O, _⟩ := ins_get I.hok ea
  obtain ⟨od, J, _⟩ := O.look
  have hbd : Binds X.K (x.fdat f) (x.fps f) [] := by rw [← hK]; exact G.tx.bnd f
  unfold setItem sequenceKey
  refine wpAny_holding (wpAny_bind (wpAny_bind (J.type.here (wpAny_bind ((PySem.W.anyM_none I.kIn nsq).here ?_)))))
  rw [if_pos (show (!false) = true from rfl)]
  refine wpAny_pure (wpAny_bind (PySem.W.special_fn I.kIn J m.at_ (beq_iff_eq.mp m.fn) ?_))
  have hrun := run_fn (us := [.ref ad, iv, u]) (vs := [.ref ad, i, v]) (G.fn f) (G.room.mono (Nat.le_succ j)) hbd .nil pass0 I (.cons rfl (.cons ri (.cons rv .nil))) (by rw [List.append_nil]; exact q)
  refine thn hrun fun w s1 ⟨y, H1, I1, _, l⟩ => ?_
  obtain ⟨H2, I2, q2⟩ := l.run I1
  exact wpAny_pure ⟨H2, I2, q2⟩
end
section
variable {tb : Tb} {Φ : Nat → List D → MH → R D} {x : Tx} {N : List Str} {j : Nat} {S : SC} {B : Bp} {X : Cx} {e ea eb ec eo ek : Expr} {a b c m o k v : M} {pos p p2 py p3 ap : Pos} {y z : Str}
theorem s_putO (G : Gs tb Φ x N j S X) (np : ∀ f ds h d h', Φ f ds h = R.ok d h' → ds.length = (x.fps f).length) (ho : PE X eo (tE tb Φ S o)) (hk : PE X ek (tE tb Φ S k)) (hv : PE X e (tE tb Φ S v)) : PS X (.Assign [.Subscript eo ek p2] e pos) (tS tb Φ S (.putO o k v)) := by
  have hK : S.C.K = X.K := by rw [G.C]
  have hca : S.C.ca = x.ca := by rw [G.C]
  refine PS.imp (ps_putX ho hk hv (set_own G.toGd)) fun D σ H ⟨B, ι, e, h, r, q⟩ => ?_
  obtain ⟨dy, g1, e1, q⟩ := st_ok q
  obtain ⟨dr, g2, e2, q⟩ := st_ok q
  obtain ⟨dx, g3, e3, q⟩ := st_ok q
  refine ⟨ι, e, h, r.rl, dy, g1, e1, fun ι1 H1 v1 go1 rl1 r1 => ⟨ι1, e, g1, rl1, dr, g2, e2, fun ι2 H2 v2 go2 rl2 r2 => ⟨ι2, e, g2, rl2, dx, g3, e3, fun ι3 H3 v3 go3 rl3 r3 => ?_⟩⟩⟩
  cases hvw : view dr g3 with
  | none => rw [hvw] at q; exact q.elim
  | some dv =>
    rw [hvw] at q
    have rv := rl3.view (r2.go go3) hvw
    cases rv <;> first | (exact q.elim) | skip
    rename_i ad cc dx' vfs fs hr hfs
    cases hm : tb.meth cc "__setitem__" with
    | none => simp only [hm] at q; exact q.elim
    | some f =>
      simp only [hm] at q
      obtain ⟨dz, g4, e4, q⟩ := st_ok q
      cases dz <;> first | (exact q.elim) | skip
      have r' := ((r.step go1 rl1).step go2 rl2).step go3 rl3
      refine ⟨ad, _, dx', vfs, f, rfl, hr, ?_, ?_, ?_⟩
      · rw [hca, ← hK]; exact G.tx.mt cc _ f hm
      · rw [hca, ← hK]; exact (G.tx.cls cc).nsq
      · refine sp_of (Q := fun _ H1 => D.nx σ H1) rl3 (.cons (r2.go go3) (.cons r3 (.cons (r1.go (go2.trans go3)) .nil))) (np _ _ _ _ _ e4) e4 fun ι' H' v g rl' _ => q ι' σ H' (r'.step g rl')
theorem s_sattN {i : Nat} {f : Str} (G : Gs tb Φ x N j S X) (h1 : N[i]? = some y) (h2 : visB X.env.scope y = true) (h3 : dbgOk y = true) (hv : PE X e (tF tb Φ S v)) : PS X (.Assign [.Attribute (.Name y py) f p2] e pos) (tS tb Φ S (.sattN i f v)) := by
  have hK : S.C.K = X.K := by rw [G.C]
  have hca : S.C.ca = x.ca := by rw [G.C]
  refine PS.imp (ps_fld (pe_var (show X.N[i]? = some y by rw [G.nm]; exact h1) (visB_of h2) (dbg1 h3) (dbg2 h3)) hv sw_att) fun D σ H ⟨B, ι, e, h, r, q⟩ => ?_
  obtain ⟨d, g1, e1, q⟩ := st_ok q
  refine ⟨ι, e, h, r.rl, d, g1, e1, fun ι1 H1 p hp ni g rl c => ?_⟩
  have r1 := r.share hp ni g rl c
  have q' : OutS S B D (match e[i]? with
    | some (.val (.ref n)) => (match g1[n]? with
      | some (.ins c fs) => if fs.length < 900 && tb.fld c f && freshD d then O.nx e (g1.set n (.ins c (fput f (.ref g1.length) fs)) ++ [d]) else .no
      | _ => .no)
    | _ => .no) := q
  split at q'
  · rename_i n hn
    split at q'
    · rename_i cc fs hi
      split at q'
      · rename_i hcond
        obtain ⟨hc12, _⟩ := and2 hcond
        obtain ⟨hc1, hc2⟩ := and2 hc12
        have hlt : n < g1.length := by
          by_cases w : n < g1.length
          · exact w
          · rw [List.getElem?_eq_none (by omega)] at hi; cases hi
        obtain ⟨vo, s1, s2⟩ := r1.rl.val i _ hn
        cases s2 with
        | @ref ad _ hr =>
          obtain ⟨ad', a1, a2⟩ := r1.rl.hp n _ (by rw [List.getElem?_append_left hlt]; exact hi)
          rw [hr] at a1
          cases a1
          cases a2 with
          | @ins _ dxx vff _ b1 b2 =>
            refine ⟨_, s1, _, _, _, _, rfl, b1, ?_, ?_, ?_, ?_⟩
            · rw [hca, ← hK]; exact (G.tx.cls cc).cl
            · rw [hca, ← hK]; exact G.tx.fld cc f hc2
            · have := of_decide_eq_true hc1
              rw [b2.length]; omega
            · have hp' : (ι1 ++ [p])[g1.length]? = some p := by
                rw [← rl.hl, List.getElem?_append_right (Nat.le_refl _), Nat.sub_self]; rfl
              have rp : Rep S.C (ι1 ++ [p]) (Mu S.M0 (ι1 ++ [p]) e σ) H1 (.ref p) (.ref g1.length) := .ref hp'
              have rr := r1.refSet (d' := .ins cc (fput f (.ref g1.length) fs)) (o := .ins (S.C.ca cc) dxx (putF f (.ref p) vff)) hr (.ins upd_same ((RepFs.put rp b2).go (Go.write (.inr (.inl (List.mem_of_getElem? hr))))))
              have eL : (g1 ++ [d]).set n (.ins cc (fput f (.ref g1.length) fs)) = g1.set n (.ins cc (fput f (.ref g1.length) fs)) ++ [d] := List.set_append_left _ _ hlt
              rw [eL] at rr
              exact q' _ σ _ rr
      · exact q'.elim
    · exact q'.elim
  · exact q'.elim
theorem own_opd {i : Nat} {e : Ev} {h : MH} {d : D} (hel : e[i]? = some (.own d)) : opd (.var i) (ev tb Φ (.var i) e h) e h = R.ok (.own i) h := by
  show (match e[i]? with
    | some (.val d) => R.ok (.d d) h
    | some (.own _) => R.ok (Od.own i) h
    | _ => R.no) = R.ok (.own i) h
  rw [hel]
theorem s_ext {i : Nat} {cp : Pos} (G : Gs tb Φ x N j S X) (h1 : N[i]? = some y) (h2 : visB X.env.scope y = true) (h3 : dbgOk y = true) (hp : plainA e = true) (hl : (ap.endLine == cp.line) = true) (ha : PE X e (tE tb Φ S a)) :
    PS X (.Expr (.Call (.Attribute (.Name y py) "extend" ap) [e] [] cp) pos) (tS tb Φ S (.ext i a)) := by
  have ho := e_var (pos := py) G.toGd rfl h1 h2 h3
  have hf : ((backTo cp (starEach [e] X.env)).all (fun x => !x.1) && (backToKw cp (keywordEach [] X.env)).all (fun x => x.1.isSome)
      && decide ([e].length + ([] : List Keyword).length + (if ([] : List Keyword).isEmpty then 0 else 1) < 30)) = true := by
    rw [plain_star hp]; rfl
  refine PS.imp (ps_expr (pe_bm (T := "list") (id := "list.extend") F.plainAttrs_list F.slot_list_extend F.type_list_extend mt_extend ho (pa_cons ha pa_nil (plain_star hp)) rfl hf hl (plain_star hp) rfl) rfl) fun D σ H ⟨B, ι, e, h, r, q⟩ => ?_
  have q' : OutS S B D (match e[i]? with
    | some (.own (.lst _)) => (ev tb Φ a e h).st e fun y h => (match e[i]?, y with
      | some (.own (.lst l)), .lst m => if l.length + m.length ≤ lim then .nx (e.set i (.own (.lst (l ++ m)))) h else .no
      | _, _ => .no)
    | _ => .no) := q
  split at q'
  · rename_i l hel
    obtain ⟨d, h', eq, q2⟩ := st_ok q'
    rw [hel] at q2
    cases d with
    | lst m2 =>
      obtain ⟨hlim, q2⟩ : ∃ _ : l.length + m2.length ≤ lim, OutS S B D (.nx (e.set i (.own (.lst (l ++ m2)))) h') := by
        have q3 : OutS S B D (if l.length + m2.length ≤ lim then .nx (e.set i (.own (.lst (l ++ m2)))) h' else .no) := q2
        split at q3
        · exact ⟨by assumption, q3⟩
        · exact q3.elim
      refine ⟨ι, e, h, r.rl, .own i, h, own_opd hel, fun ι1 H1 v1 g1 rl1 r1 => ?_⟩
      have r1' : σ[i]? = some (some v1) := r1
      obtain ⟨ad, o1, o2, o3, o4⟩ := rl1.own i _ hel
      rw [o1] at r1'
      cases r1'
      cases o4 with
      | lst hh hr =>
        refine ⟨.inl ⟨rfl, _, SqL.of hh⟩, ι1, e, h, rl1, _, h', eq, fun ι2 H2 v2 g2 rl2 r2 => ?_⟩
        obtain ⟨ad', p1, p2, p3, p4⟩ := rl2.own i _ hel
        rw [o1] at p1
        cases p1
        cases p4 with
        | lst hh2 hr2 =>
          cases r2 with
          | @lst b zs ds mb hb rz =>
            refine ⟨ad, b, _, zs, rfl, rfl, hh2, hb, by rw [hr2.length, rz.length]; exact lim_le hlim, ?_⟩
            have r' := (r.step g1 rl1).step g2 rl2
            have hm : Mu S.M0 ι2 e σ ad := .inr (.inr ⟨i, ⟨_, hel⟩, o1⟩)
            exact q2 ι2 σ _ (r'.ownSet hel o1 (.lst upd_same ((hr2.append rz).go (Go.write hm))))
    | _ => exact q2.elim
  · exact q'.elim
theorem Reps.dropLast {C : RC} {ι : List Addr} {M : Addr → Prop} {H : Hp} {ds : List D} {vs : List V} (r : Reps C ι M H vs ds) {d : D} (e : ds.getLast? = some d) : ∃ v, vs[vs.length - 1]? = some v ∧ Rep C ι M H v d ∧ Reps C ι M H vs.dropLast ds.dropLast := by
  have e' : ds[ds.length - 1]? = some d := by rw [← List.getLast?_eq_getElem?]; exact e
  obtain ⟨v, h1, h2⟩ := r.get e'
  refine ⟨v, by rw [r.length]; exact h1, h2, ?_⟩
  have dl : ∀ {ds : List D} {vs : List V}, Reps C ι M H vs ds → Reps C ι M H vs.dropLast ds.dropLast := by
    intro ds
    induction ds with
    | nil => intro vs r; cases r; exact .nil
    | cons d1 t ih =>
      intro vs r
      cases r with
      | cons a b =>
        cases b with
        | nil => exact .nil
        | cons c f => exact .cons a (ih (.cons c f))
  exact dl r
theorem s_pop {i k : Nat} {cp : Pos} (G : Gs tb Φ x N j S X) (h1 : N[i]? = some y) (h2 : visB X.env.scope y = true) (h3 : dbgOk y = true) (hl : (ap.endLine == cp.line) = true) (h4 : N[k]? = some z) (h5 : locB X.env.scope z = true) :
    PS X (.Assign [.Name z p2] (.Call (.Attribute (.Name y py) "pop" ap) [] [] cp) pos) (tS tb Φ S (.pop k i)) := by
  have ho := e_var (pos := py) G.toGd rfl h1 h2 h3
  refine PS.imp (ps_set (by rw [G.nm]; exact G.nd) (by rw [G.nm]; exact h4) (locB_of h5) (pe_bm0 (T := "list") (id := "list.pop") F.plainAttrs_list F.slot_list_pop F.type_list_pop mt_pop ho rfl hl) rfl (.inl (G.fnT z))) fun D σ H ⟨B, ι, e, h, r, q⟩ => ?_
  have q' : OutS S B D (match e[i]? with
    | some (.own (.lst l)) => (match l.getLast? with
      | some d => if i = k then .no else .nx ((e.set i (.own (.lst l.dropLast))).set k (.val d)) h
      | none => .no)
    | _ => .no) := q
  split at q'
  · rename_i l hel
    split at q'
    · rename_i d hd
      split at q'
      · exact q'.elim
      · refine ⟨ι, e, h, r.rl, .own i, h, own_opd hel, fun ι1 H1 v1 g1 rl1 r1 => ?_⟩
        have r1' : σ[i]? = some (some v1) := r1
        obtain ⟨ad, o1, o2, o3, o4⟩ := rl1.own i _ hel
        rw [o1] at r1'
        cases r1'
        cases o4 with
        | lst hh hr =>
          obtain ⟨v, w1, w2, w3⟩ := hr.dropLast hd
          have hm : Mu S.M0 ι1 e σ ad := .inr (.inr ⟨i, ⟨_, hel⟩, o1⟩)
          have gw : ∀ {o : HO}, Go ι1 (Mu S.M0 ι1 e σ) H1 ι1 (Mu S.M0 ι1 e σ) (upd H1 ad o) := Go.write hm
          refine ⟨.inl ⟨rfl, _, SqL.of hh⟩, ad, _, v, rfl, rfl, hh, w1, ?_⟩
          have r2 := (r.step g1 rl1).ownSet hel o1 (.lst upd_same (w3.go gw))
          have sub : ∀ b, Mu S.M0 ι1 (e.set i (.own (.lst l.dropLast))) σ b → Mu S.M0 ι1 e σ b := mu_own fun n b ⟨⟨d2, q1⟩, q2⟩ => by
            rcases set_some q1 with ⟨rfl, _, _⟩ | ⟨_, q1⟩
            · exact ⟨⟨_, hel⟩, q2⟩
            · exact ⟨⟨d2, q1⟩, q2⟩
          exact q' ι1 _ _ (r2.setVal ((w2.go gw).go (.less sub)))
    · exact q'.elim
  · exact q'.elim
theorem s_clr {i : Nat} {cp : Pos} (G : Gs tb Φ x N j S X) (h1 : N[i]? = some y) (h2 : visB X.env.scope y = true) (h3 : dbgOk y = true) (hl : (ap.endLine == cp.line) = true) :
    PS X (.Expr (.Call (.Attribute (.Name y py) "clear" ap) [] [] cp) pos) (tS tb Φ S (.clr i)) := by
  have ho := e_var (pos := py) G.toGd rfl h1 h2 h3
  refine PS.imp (ps_expr (pe_bm0 (T := "list") (id := "list.clear") F.plainAttrs_list F.slot_list_clear F.type_list_clear mt_clear ho rfl hl) rfl) fun D σ H ⟨B, ι, e, h, r, q⟩ => ?_
  have q' : OutS S B D (match e[i]? with
    | some (.own (.lst _)) => .nx (e.set i (.own (.lst []))) h
    | _ => .no) := q
  split at q'
  · rename_i l hel
    refine ⟨ι, e, h, r.rl, .own i, h, own_opd hel, fun ι1 H1 v1 g1 rl1 r1 => ?_⟩
    have r1' : σ[i]? = some (some v1) := r1
    obtain ⟨ad, o1, o2, o3, o4⟩ := rl1.own i _ hel
    rw [o1] at r1'
    cases r1'
    cases o4 with
    | lst hh hr => exact ⟨.inl ⟨rfl, _, SqL.of hh⟩, ad, _, rfl, rfl, hh, q' ι1 σ _ ((r.step g1 rl1).ownSet hel o1 (.lst upd_same .nil))⟩
  · exact q'.elim
theorem s_appR {eo : Expr} {cp : Pos} (G : Gs tb Φ x N j S X) (hb : baseP eo = true) (hp : plainA e = true) (hl : (ap.endLine == cp.line) = true) (ho : PE X eo (tE tb Φ S o)) (ha : PE X e (tE tb Φ S a)) :
    PS X (.Expr (.Call (.Attribute eo "append" ap) [e] [] cp) pos) (tS tb Φ S (.appR o a)) := by
  have hf : ((backTo cp (starEach [e] X.env)).all (fun x => !x.1) && (backToKw cp (keywordEach [] X.env)).all (fun x => x.1.isSome)
      && decide ([e].length + ([] : List Keyword).length + (if ([] : List Keyword).isEmpty then 0 else 1) < 30)) = true := by
    rw [plain_star hp]; rfl
  refine PS.imp (ps_expr (pe_bm (T := "list") (id := "list.append") F.plainAttrs_list F.slot_list_append F.type_list_append mt_append ho (pa_cons ha pa_nil (plain_star hp)) (base_plain hb) hf hl (plain_star hp) rfl) rfl) fun D σ H ⟨B, ι, e, h, r, q⟩ => ?_
  obtain ⟨dx, h1, e1, q⟩ := st_ok q
  cases dx <;> first | (exact q.elim) | skip
  rename_i n
  have q' : OutS S B D (match h1[n]? with
    | some (.lst _) => (ev tb Φ a e h1).st e fun y h => (match h[n]? with
      | some (.lst l) => if l.length < lim then .nx e (h.set n (.lst (l ++ [y]))) else .no
      | _ => .no)
    | _ => .no) := q
  split at q'
  · rename_i l0 hn1
    obtain ⟨dy, h2, e2, q2⟩ := st_ok q'
    split at q2
    · rename_i l hn2
      split at q2
      · rename_i hlim
        refine ⟨ι, e, h, r.rl, .ref n, h1, e1, fun ι1 H1 v1 g1 rl1 r1 => ?_⟩
        cases r1 with
        | @ref ad _ hr =>
          obtain ⟨ad1, a1, a2⟩ := rl1.hp n _ hn1
          rw [hr] at a1
          cases a1
          cases a2 with
          | lst hh hrs =>
            refine ⟨.inl ⟨rfl, _, SqL.of hh⟩, ι1, e, h1, rl1, dy, h2, e2, fun ι2 H2 v2 g2 rl2 r2 => ?_⟩
            have hr2 := g2.pre n ad hr
            obtain ⟨ad2, b1, b2⟩ := rl2.hp n _ hn2
            rw [hr2] at b1
            cases b1
            cases b2 with
            | lst hh2 hrs2 =>
              refine ⟨ad, _, v2, rfl, rfl, hh2, by rw [hrs2.length]; exact Nat.lt_of_lt_of_le hlim (by decide), ?_⟩
              have r' := (r.step g1 rl1).step g2 rl2
              have hm : Mu S.M0 ι2 e σ ad := .inr (.inl (List.mem_of_getElem? hr2))
              exact q2 ι2 σ _ (r'.refSet hr2 (.lst upd_same ((hrs2.snoc r2).go (Go.write hm))))
      · exact q2.elim
    · exact q2.elim
  · exact q'.elim
theorem s_clrR {eo : Expr} {cp : Pos} (G : Gs tb Φ x N j S X) (hb : baseP eo = true) (hl : (ap.endLine == cp.line) = true) (ho : PE X eo (tE tb Φ S o)) :
    PS X (.Expr (.Call (.Attribute eo "clear" ap) [] [] cp) pos) (tS tb Φ S (.clrR o)) := by
  refine PS.imp (ps_expr (pe_bm0 (T := "list") (id := "list.clear") F.plainAttrs_list F.slot_list_clear F.type_list_clear mt_clear ho (base_plain hb) hl) rfl) fun D σ H ⟨B, ι, e, h, r, q⟩ => ?_
  obtain ⟨dx, h1, e1, q⟩ := st_ok q
  cases dx <;> first | (exact q.elim) | skip
  rename_i n
  have q' : OutS S B D (match h1[n]? with
    | some (.lst _) => .nx e (h1.set n (.lst []))
    | _ => .no) := q
  split at q'
  · rename_i l0 hn1
    refine ⟨ι, e, h, r.rl, .ref n, h1, e1, fun ι1 H1 v1 g1 rl1 r1 => ?_⟩
    cases r1 with
    | @ref ad _ hr =>
      obtain ⟨ad1, a1, a2⟩ := rl1.hp n _ hn1
      rw [hr] at a1
      cases a1
      cases a2 with
      | lst hh hrs => exact ⟨.inl ⟨rfl, _, SqL.of hh⟩, ad, _, rfl, rfl, hh, q' ι1 σ _ ((r.step g1 rl1).refSet hr (.lst upd_same .nil))⟩
  · exact q'.elim
end
end MP

set_option maxRecDepth 100000
set_option maxHeartbeats 1000000
/-! MP23: every checked body; every def keeps its promise. -/
namespace MP
open PySem PySem.Spec PyProof.Rows L2

section
variable {tb : Tb} {Φ : Nat → List D → MH → R D} {x : Tx} {N : List Str} {j : Nat}
theorem RS.frz {S : SC} {B : Bp} {ι : List Addr} {e : Ev} {h : MH} {σ : L2.St} {H : Hp} {D : Ends} {i : Nat} {l : Ss} (r : RS S B ι e h σ H) (q : OutS S B D (execs tb Φ (.cons (.frz i) l) e h)) : LockQ (fun H1 => tSs tb Φ S l D σ H1) H := by
  have q' : OutS S B D (match (match e[i]? with
    | some (.own d) => if freshD d then O.nx (e.set i (.val d)) h else .no
    | some (.val d) => .nx (e.set i (.val d)) h
    | _ => .no) with
    | .nx e h => execs tb Φ l e h
    | o => o) := q
  cases hz : e[i]? with
  | none => rw [hz] at q'; exact q'.elim
  | some s =>
    rw [hz] at q'
    cases s with
    | no => exact q'.elim
    | val d =>
      have he : e.set i (.val d) = e := by
        refine List.ext_getElem? fun k => ?_
        rw [List.getElem?_set]
        split
        · rename_i z; subst z
          split
          · exact hz.symm
          · rename_i w; rw [List.getElem?_eq_none (by omega)]
        · rfl
      have q2 : OutS S B D (execs tb Φ l (e.set i (.val d)) h) := q'
      rw [he] at q2
      exact .done ⟨B, ι, e, h, r, q2⟩
    | own d =>
      by_cases hf : freshD d = true
      · have q2 : OutS S B D (match (if freshD d then O.nx (e.set i (.val d)) h else .no) with
          | .nx e h => execs tb Φ l e h
          | o => o) := q'
        rw [if_pos hf] at q2
        exact r.freeze hz fun H2 r2 => ⟨B, ι, _, h, r2, q2⟩
      · have q2 : OutS S B D (match (if freshD d then O.nx (e.set i (.val d)) h else .no) with
          | .nx e h => execs tb Φ l e h
          | o => o) := q'
        rw [if_neg hf] at q2
        exact q2.elim
theorem seq_core {S : SC} {D : Ends} {s : MP.S} {l : Ss} {σ : L2.St} {H : Hp} (q : tSs tb Φ S (.cons s l) D σ H) : tSeq (tS tb Φ S s) (tSs tb Φ S l) D σ H := by
  obtain ⟨B, ι, e, h, r, q⟩ := q
  refine ⟨B, ι, e, h, r, ?_⟩
  have q' : OutS S B D (match exec tb Φ s e h with
    | .nx e h => execs tb Φ l e h
    | o => o) := q
  cases hx : exec tb Φ s e h with
  | nx e2 h2 => rw [hx] at q'; exact fun ι σ H r => ⟨B, ι, e2, h2, r, q'⟩
  | ct e2 h2 => rw [hx] at q'; exact q'
  | bk e2 h2 => rw [hx] at q'; exact q'
  | rt d h2 => rw [hx] at q'; exact q'
  | rtF d h2 => rw [hx] at q'; exact q'
  | ex c fs e2 h2 => rw [hx] at q'; exact q'
  | no => rw [hx] at q'; exact q'
theorem b_cons {S : SC} {X : Cx} {sc : Scope} {s : MP.S} {l : Ss} {sts : List Stmt} (h1 : ∀ st, chkS x N sc s st = true → PS X st (tS tb Φ S s)) (h2 : ∀ sts, chkB x N sc l sts = true → PSs X sts (tSs tb Φ S l)) (h : chkB x N sc (.cons s l) sts = true) : PSs X sts (tSs tb Φ S (.cons s l)) := by
  have gen : (∀ st r, sts = st :: r → (chkS x N sc s st && chkB x N sc l r) = true) → sts ≠ [] → PSs X sts (tSs tb Φ S (.cons s l)) := fun g hne => by
    cases sts with
    | nil => exact absurd rfl hne
    | cons st r =>
      obtain ⟨a, b⟩ := and2 (g st r rfl)
      exact PSs.imp (pss_cons (h1 st a) (h2 r b)) fun D σ H q => seq_core q
  cases s <;> first
    | (cases sts with
       | nil => cases h
       | cons st r => exact gen (fun st' r' e => by cases e; exact h) (by simp))
    | exact PSs.imp (PSs.lock (h2 sts h)) fun D σ H ⟨B, ι, e, hh, r, q⟩ => r.frz q
    | exact PSs.imp (h2 sts h) fun D σ H ⟨B, ι, e, hh, r, q⟩ => ⟨B, ι, _, hh, r.wip, q⟩

variable (np : ∀ f ds h d h', Φ f ds h = R.ok d h' → ds.length = (x.fps f).length)
include np
mutual
theorem ps_ok : ∀ (s : MP.S) (X : Cx) (S : SC) (st : Stmt), Gs tb Φ x N j S X → chkS x N X.env.scope s st = true → PS X st (tS tb Φ S s)
  | .expr a, X, S, st, G, h => by
    cases st <;> first | (cases h; done) | skip
    obtain ⟨h1, h2⟩ := and2 h
    exact s_expr (pe_ok np a X S _ _ G.toGd rfl h2).1 ((Bool.not_eq_true' _).mp h1)
  | .set i a, X, S, st, G, h => by
    cases st <;> first | (cases h; done) | skip
    rename_i ts e p
    rcases ts with _ | ⟨t, _ | ⟨t2, r⟩⟩ <;> first | (cases h; done) | (cases t <;> cases h; done) | skip
    cases t <;> first | (cases h; done) | skip
    rename_i y py
    obtain ⟨h1, h2, h3⟩ := and3 h
    have h1 := of_decide_eq_true h1
    rw [Bool.or_eq_true] at h3
    rcases h3 with h3 | h3
    · obtain ⟨h4, h5⟩ := and2 h3
      exact s_set G h1 h2 (pe_ok np a X S _ _ G.toGd rfl h5).1 (comp_sw ((Bool.not_eq_true' _).mp h4))
    · obtain ⟨h4, h5, h6⟩ := and3 h3
      obtain ⟨hF, h6⟩ := and2 h6
      rw [Bool.or_eq_true] at h5
      rcases h5 with h5 | h5
      · refine PS.imp (PS.lock (setSw_gen np G h1 h4 h5 h6 hF)) fun D σ H q => setFv_core q
      · exact s_set G h1 h2 (pe_ok np a X S _ _ G.toGd rfl h6).1 (lc_sw h4 G.kind ((Bool.not_eq_true' _).mp h5))
  | .setN i a, X, S, st, G, h => by
    cases st <;> first | (cases h; done) | skip
    rename_i ts e p
    rcases ts with _ | ⟨t, _ | ⟨t2, r⟩⟩ <;> first | (cases h; done) | (cases t <;> cases h; done) | skip
    cases t <;> first | (cases h; done) | skip
    rename_i y py
    obtain ⟨h0, h3⟩ := and2 h
    obtain ⟨h1, h2, hF⟩ := and3 h0
    have h1 := of_decide_eq_true h1
    rw [Bool.or_eq_true] at h3
    rcases h3 with h3 | h3
    · obtain ⟨h4, h5⟩ := and2 h3
      exact s_setF G h1 h2 ((pe_ok np a X S _ _ G.toGd rfl h5).2.2 hF) (comp_sw ((Bool.not_eq_true' _).mp h4))
    · obtain ⟨h4, h5, h6⟩ := and3 h3
      rw [Bool.or_eq_true] at h5
      rcases h5 with h5 | h5
      · exact PS.imp (setSw_gen np G h1 h4 h5 h6 hF) fun D σ H q => setF_core q
      · exact s_setF G h1 h2 ((pe_ok np a X S _ _ G.toGd rfl h6).2.2 hF) (lc_sw h4 G.kind ((Bool.not_eq_true' _).mp h5))
  | .unp is a, X, S, st, G, h => by
    cases st <;> first | (cases h; done) | skip
    rename_i ts e p
    rcases ts with _ | ⟨t, _ | ⟨t2, r⟩⟩ <;> first | (cases h; done) | (cases t <;> cases h; done) | skip
    cases t <;> first | (cases h; done) | skip
    obtain ⟨h0, h5⟩ := and2 h
    obtain ⟨h0, h4⟩ := and2 h0
    obtain ⟨h1, h2, h3⟩ := and3 h0
    exact s_unp G h1 (of_decide_eq_true h2) (pe_ok np a X S _ _ G.toGd rfl h5).1 ((Bool.not_eq_true' _).mp h3) ((Bool.not_eq_true' _).mp h4)
  | .par i k a b, X, S, st, G, h => by cases st <;> cases h
  | .put i k v, X, S, st, G, h => by
    cases st <;> first | (cases h; done) | skip
    rename_i ts e p
    rcases ts with _ | ⟨t, _ | ⟨t2, r⟩⟩ <;> first | (cases h; done) | (cases t <;> first | (cases h; done) | (rename_i o _ _; cases o <;> cases h; done)) | skip
    cases t <;> first | (cases h; done) | skip
    rename_i eo ek p2
    cases eo <;> first | (cases h; done) | skip
    obtain ⟨h0, h6⟩ := and2 h
    obtain ⟨h0, h5⟩ := and2 h0
    obtain ⟨h1, h2, h3⟩ := and3 h0
    exact s_put G (of_decide_eq_true h1) h2 h3 (pe_ok np k X S _ _ G.toGd rfl h5).1 (pe_ok np v X S _ _ G.toGd rfl h6).1
  | .putS o k v, X, S, st, G, h => by
    cases st <;> first | (cases h; done) | skip
    rename_i ts e p
    rcases ts with _ | ⟨t, _ | ⟨t2, r⟩⟩ <;> first | (cases h; done) | (cases t <;> cases h; done) | skip
    cases t <;> first | (cases h; done) | skip
    obtain ⟨h0, h4⟩ := and2 h
    obtain ⟨h1, h2, h3⟩ := and3 h0
    exact s_putS G (pe_ok np o X S _ _ G.toGd rfl h2).1 (pe_ok np k X S _ _ G.toGd rfl h3).1 (pe_ok np v X S _ _ G.toGd rfl h4).1
  | .putO o k v, X, S, st, G, h => by
    cases st <;> first | (cases h; done) | skip
    rename_i ts e p
    rcases ts with _ | ⟨t, _ | ⟨t2, r⟩⟩ <;> first | (cases h; done) | (cases t <;> cases h; done) | skip
    cases t <;> first | (cases h; done) | skip
    obtain ⟨h0, h4⟩ := and2 h
    obtain ⟨h1, h2, h3⟩ := and3 h0
    exact s_putO G np (pe_ok np o X S _ _ G.toGd rfl h2).1 (pe_ok np k X S _ _ G.toGd rfl h3).1 (pe_ok np v X S _ _ G.toGd rfl h4).1
  | .sattN i f v, X, S, st, G, h => by
    cases st <;> first | (cases h; done) | skip
    rename_i ts e p
    rcases ts with _ | ⟨t, _ | ⟨t2, r⟩⟩ <;> first | (cases h; done) | (cases t <;> first | (cases h; done) | (rename_i o _ _; cases o <;> cases h; done)) | skip
    cases t <;> first | (cases h; done) | skip
    rename_i eo g p2
    cases eo <;> first | (cases h; done) | skip
    obtain ⟨h0, h6⟩ := and2 h
    obtain ⟨h0, h5⟩ := and2 h0
    obtain ⟨h0, h4⟩ := and2 h0
    obtain ⟨h1, h2, h3⟩ := and3 h0
    have e1 := of_decide_eq_true h4
    subst e1
    exact s_sattN G (of_decide_eq_true h1) h2 h3 ((pe_ok np v X S _ _ G.toGd rfl h6).2.2 h5)
  | .retF a, X, S, st, G, h => by
    cases st <;> first | (cases h; done) | skip
    rename_i v p
    cases v <;> first | (cases h; done) | skip
    obtain ⟨h1, h2⟩ := and2 h
    exact s_retF ((pe_ok np a X S _ _ G.toGd rfl h2).2.2 h1)
  | .retO i, X, S, st, G, h => by
    cases st <;> first | (cases h; done) | skip
    rename_i v p
    cases v <;> first | (cases h; done) | skip
    rename_i e
    cases e <;> first | (cases h; done) | skip
    obtain ⟨h1, h2, h3⟩ := and3 h
    exact s_retO G (of_decide_eq_true h1) h2 h3
  | .clr i, X, S, st, G, h => by
    cases st <;> first | (cases h; done) | skip
    rename_i e p
    cases e <;> first | (cases h; done) | skip
    rename_i fn es ks cp
    cases fn <;> first | (cases h; done) | skip
    rename_i o m ap
    cases o <;> first | (cases h; done) | skip
    rcases es with _ | ⟨e1, r⟩ <;> first | (cases h; done) | (cases ks <;> cases h; done) | skip
    cases ks <;> first | (cases h; done) | skip
    obtain ⟨h0, h5⟩ := and2 h
    obtain ⟨h0, h4⟩ := and2 h0
    obtain ⟨h1, h2, h3⟩ := and3 h0
    have e1 := of_decide_eq_true h4
    subst e1
    exact s_clr G (of_decide_eq_true h1) h2 h3 h5
  | .wip is, X, S, st, G, h => by cases st <;> cases h
  | .satt o f v, X, S, st, G, h => by
    cases st <;> first | (cases h; done) | skip
    rename_i ts e p
    rcases ts with _ | ⟨t, _ | ⟨t2, r⟩⟩ <;> first | (cases h; done) | (cases t <;> cases h; done) | skip
    cases t <;> first | (cases h; done) | skip
    obtain ⟨h0, h4⟩ := and2 h
    obtain ⟨h1, h2, h3⟩ := and3 h0
    have e1 := of_decide_eq_true h1
    subst e1
    exact s_satt G (pe_ok np o X S _ _ G.toGd rfl h3).1 (pe_ok np v X S _ _ G.toGd rfl h4).1 ((Bool.not_eq_true' _).mp h2)
  | .aug i op a, X, S, st, G, h => by
    cases st <;> first | (cases h; done) | skip
    rename_i t o e p
    cases t <;> first | (cases h; done) | skip
    obtain ⟨h0, h4⟩ := and2 h
    obtain ⟨h1, h2, h3⟩ := and3 h0
    have e1 := of_decide_eq_true h3
    subst e1
    exact s_aug G (of_decide_eq_true h1) h2 (pe_ok np a X S _ _ G.toGd rfl h4).1
  | .iff c a b, X, S, st, G, h => by
    cases st <;> first | (cases h; done) | skip
    obtain ⟨h1, h2, h3⟩ := and3 h
    exact s_if (pt_ok np c X S _ _ G.toGd rfl h1) (pb_ok a X S _ G h2) (pb_ok b X S _ G h3)
  | .whl c b, X, S, st, G, h => by
    cases st <;> first | (cases h; done) | skip
    rename_i e sb oe p
    cases oe <;> first | (cases h; done) | skip
    obtain ⟨h1, h2⟩ := and2 h
    exact s_whl G (pt_ok np c X S _ _ G.toGd rfl h1) (pb_ok b X S _ G h2)
  | .forr pt it b, X, S, st, G, h => by
    cases st <;> first | (cases h; done) | skip
    rename_i tg iter sb oe p
    cases oe <;> first | (cases h; done) | skip
    obtain ⟨h0, h4⟩ := and2 h
    obtain ⟨h1, h2, h3⟩ := and3 h0
    exact s_for G h1 h2 (pi_ok np it X S tg _ _ G.toGd rfl h3) (pb_ok b X S _ G h4)
  | .ret a, X, S, st, G, h => by
    cases st <;> first | (cases h; done) | skip
    rename_i v p
    cases v <;> first | (cases h; done) | skip
    exact s_ret (pe_ok np a X S _ _ G.toGd rfl h).1
  | .retn, X, S, st, G, h => by
    cases st <;> first | (cases h; done) | skip
    rename_i v p
    cases v <;> first | (cases h; done) | skip
    exact s_retn
  | .brk, X, S, st, G, h => by
    cases st <;> first | (cases h; done) | skip
    exact s_brk
  | .cnt, X, S, st, G, h => by
    cases st <;> first | (cases h; done) | skip
    exact s_cnt
  | .pass, X, S, st, G, h => by
    cases st <;> first | (cases h; done) | skip
    exact s_pass
  | .app i a, X, S, st, G, h => by
    cases st <;> first | (cases h; done) | skip
    rename_i e p
    cases e <;> first | (cases h; done) | skip
    rename_i fn es ks cp
    cases fn <;> first | (cases h; done) | skip
    rename_i o m ap
    cases o <;> first | (cases h; done) | skip
    rcases es with _ | ⟨e1, _ | ⟨e2, r⟩⟩ <;> first | (cases h; done) | (cases ks <;> cases h; done) | skip
    cases ks <;> first | (cases h; done) | skip
    obtain ⟨h0, h7⟩ := and2 h
    obtain ⟨h0, h6⟩ := and2 h0
    obtain ⟨h0, h5⟩ := and2 h0
    obtain ⟨h0, h4⟩ := and2 h0
    obtain ⟨h1, h2, h3⟩ := and3 h0
    have e1 := of_decide_eq_true h4
    subst e1
    exact s_app G (of_decide_eq_true h1) h2 h3 h5 h6 (pe_ok np a X S _ _ G.toGd rfl h7).1
  | .ext i a, X, S, st, G, h => by
    cases st <;> first | (cases h; done) | skip
    rename_i e p
    cases e <;> first | (cases h; done) | skip
    rename_i fn es ks cp
    cases fn <;> first | (cases h; done) | skip
    rename_i o m ap
    cases o <;> first | (cases h; done) | skip
    rcases es with _ | ⟨e1, _ | ⟨e2, r⟩⟩ <;> first | (cases h; done) | (cases ks <;> cases h; done) | skip
    cases ks <;> first | (cases h; done) | skip
    obtain ⟨h0, h7⟩ := and2 h
    obtain ⟨h0, h6⟩ := and2 h0
    obtain ⟨h0, h5⟩ := and2 h0
    obtain ⟨h0, h4⟩ := and2 h0
    obtain ⟨h1, h2, h3⟩ := and3 h0
    have e1 := of_decide_eq_true h4
    subst e1
    exact s_ext G (of_decide_eq_true h1) h2 h3 h5 h6 (pe_ok np a X S _ _ G.toGd rfl h7).1
  | .pop k i, X, S, st, G, h => by
    cases st <;> first | (cases h; done) | skip
    rename_i ts e p
    rcases ts with _ | ⟨t, _ | ⟨t2, r⟩⟩ <;> first | (cases h; done) | (cases t <;> cases h; done) | skip
    cases t <;> first | (cases h; done) | skip
    rename_i z pz
    cases e <;> first | (cases h; done) | skip
    rename_i fn es ks cp
    cases fn <;> first | (cases h; done) | skip
    rename_i o m ap
    cases o <;> first | (cases h; done) | skip
    rcases es with _ | ⟨e1, r⟩ <;> first | (cases h; done) | (cases ks <;> cases h; done) | skip
    cases ks <;> first | (cases h; done) | skip
    obtain ⟨h0, h7⟩ := and2 h
    obtain ⟨h0, h6⟩ := and2 h0
    obtain ⟨h0, h5⟩ := and2 h0
    obtain ⟨h0, h4⟩ := and2 h0
    obtain ⟨h1, h2, h3⟩ := and3 h0
    have e1 := of_decide_eq_true h4
    subst e1
    exact s_pop G (of_decide_eq_true h1) h2 h3 h5 (of_decide_eq_true h6) h7
  | .appR o a, X, S, st, G, h => by
    cases st <;> first | (cases h; done) | skip
    rename_i e p
    cases e <;> first | (cases h; done) | skip
    rename_i fn es ks cp
    cases fn <;> first | (cases h; done) | skip
    rename_i eo m ap
    rcases es with _ | ⟨e1, _ | ⟨e2, r⟩⟩ <;> first | (cases h; done) | (cases ks <;> cases h; done) | skip
    cases ks <;> first | (cases h; done) | skip
    obtain ⟨h0, h6⟩ := and2 h
    obtain ⟨h0, h5⟩ := and2 h0
    obtain ⟨h0, h4⟩ := and2 h0
    obtain ⟨h1, h2, h3⟩ := and3 h0
    have e1 := of_decide_eq_true h1
    subst e1
    exact s_appR G h2 h3 h4 (pe_ok np o X S _ _ G.toGd rfl h5).1 (pe_ok np a X S _ _ G.toGd rfl h6).1
  | .clrR o, X, S, st, G, h => by
    cases st <;> first | (cases h; done) | skip
    rename_i e p
    cases e <;> first | (cases h; done) | skip
    rename_i fn es ks cp
    cases fn <;> first | (cases h; done) | skip
    rename_i eo m ap
    rcases es with _ | ⟨e1, r⟩ <;> first | (cases h; done) | (cases ks <;> cases h; done) | skip
    cases ks <;> first | (cases h; done) | skip
    obtain ⟨h0, h4⟩ := and2 h
    obtain ⟨h1, h2, h3⟩ := and3 h0
    have e1 := of_decide_eq_true h1
    subst e1
    exact s_clrR G h2 h3 (pe_ok np o X S _ _ G.toGd rfl h4).1
  | .forR pt m b, X, S, st, G, h => by
    cases st <;> first | (cases h; done) | skip
    rename_i tg iter sb oe p
    cases oe <;> first | (cases h; done) | skip
    obtain ⟨h0, h4⟩ := and2 h
    obtain ⟨h1, h2, h3⟩ := and3 h0
    exact s_forR G h1 h2 (pe_ok np m X S _ _ G.toGd rfl h3).1 (pb_ok b X S _ G h4)
  | .upd i a, X, S, st, G, h => by cases st <;> cases h
  | .never, X, S, st, G, h => s_never
  | .frz i, X, S, st, G, h => by cases st <;> cases h
theorem pb_ok : ∀ (l : Ss) (X : Cx) (S : SC) (sts : List Stmt), Gs tb Φ x N j S X → chkB x N X.env.scope l sts = true → PSs X sts (tSs tb Φ S l)
  | .nil, X, S, sts, G, h => by
    cases sts <;> first | (cases h; done) | skip
    exact PSs.imp pss_nil fun D σ H ⟨B, ι, e, hh, r, q⟩ => q ι σ H r
  | .cons s l, X, S, sts, G, h => b_cons (fun st => ps_ok s X S st G) (fun sts => pb_ok l X S sts G) h
end
end
end MP

set_option maxRecDepth 100000
set_option maxHeartbeats 1000000
/-! MP24: defs. -/
namespace MP
open PySem PySem.Spec PyProof.Rows L2

/-- a def's text, as the checker saw it -/
structure FnT (tb : Tb) (x : Tx) (F : Nat → Option Fd) (K : PySem.W.Frag) (f : Nat) (fd : Fd) : Prop where
  ex : ∃ (name qual : Str) (params : Arguments) (body : List Stmt) (scope : Scope) (dvs : List V) (kws : List (Str × V)) (N : List Str), FunD K name qual params body scope dvs kws (x.fa f) (x.fdat f) ∧
    FnScope N (x.fps f) scope ∧ fd.ns = N.length ∧ fd.np = (x.fps f).length ∧ fd.sup = none ∧ fd.fr = x.frs f ∧ chkB x N scope fd.body body = true
/-- the facts of one text -/
structure Txt (tb : Tb) (x : Tx) (F : Nat → Option Fd) (P : Program) (w : World) (K : PySem.W.Frag) (mg : Str → Option Value) (base : Heap) : Prop where
  tx : TxF tb x ⟨P, w, K, x.ca⟩ mg
  /-- a def is one of the text, or keeps its promise at every level for some other reason -/
  fn : ∀ f fd, F f = some fd → FnT tb x F K f fd ∨ (fd.np = (x.fps f).length ∧ ∀ k, (∀ g, FnOk P w K mg base cx0 (2 * k) (x.fa g) (x.fdat g) (x.fps g) (spF ⟨P, w, K, x.ca⟩ (x.fps g).length (x.frs g) (callN tb F k g))) →
    FnOk P w K mg base cx0 (2 * (k + 1)) (x.fa f) (x.fdat f) (x.fps f) (spF ⟨P, w, K, x.ca⟩ (x.fps f).length (x.frs f) (callN tb F (k + 1) f)))

section
variable {tb : Tb} {x : Tx} {F : Nat → Option Fd} {P : Program} {w : World} {K : PySem.W.Frag} {mg : Str → Option Value} {base : Heap}
theorem spF_none {C : RC} {np : Nat} {fr : Bool} {run : List D → MH → R D} (h : ∀ ds h, run ds h = .no) {vs : List V} {H : Hp} {Q : VK} {E : XK} (q : spF C np fr run vs H Q E) : False := by
  obtain ⟨_, ι, M, ds, hh, d, h', _, _, e, _⟩ := q
  rw [h] at e
  cases e
theorem callN_np (T : Txt tb x F P w K mg base) (k : Nat) (f : Nat) (ds : List D) (h : MH) (d : D) (h' : MH) (e : callN tb F k f ds h = .ok d h') : ds.length = (x.fps f).length := by
  cases k with
  | zero => cases e
  | succ k =>
    cases hf : F f with
    | none => unfold callN at e; rw [hf] at e; cases e
    | some fd =>
      unfold callN at e
      rw [hf] at e
      obtain ⟨h1, _⟩ := ite_ok e
      rcases T.fn f fd hf with ⟨_, _, _, _, _, _, _, _, _, _, _, hn, _⟩ | ⟨hn, _⟩
      · rw [h1, hn]
      · rw [h1, hn]
theorem fn_ok (T : Txt tb x F P w K mg base) : ∀ (k : Nat) (f : Nat), FnOk P w K mg base cx0 (2 * k) (x.fa f) (x.fdat f) (x.fps f) (spF ⟨P, w, K, x.ca⟩ (x.fps f).length (x.frs f) (callN tb F k f))
  | 0, f => ⟨fun vs H Q E q => (spF_none (fun _ _ => rfl) q).elim, fun A outer s H args us vs Q E _ _ _ _ q => (spF_none (fun _ _ => rfl) q).elim⟩
  | k + 1, f => by
    have ih := fn_ok T k
    cases hf : F f with
    | none =>
      have hn : ∀ ds h, callN tb F (k + 1) f ds h = .no := fun ds h => by unfold callN; rw [hf]
      exact ⟨fun vs H Q E q => (spF_none hn q).elim, fun A outer s H args us vs Q E _ _ _ _ q => (spF_none hn q).elim⟩
    | some fd =>
      rcases T.fn f fd hf with ⟨name, qual, params, body, scope, dvs, kws, N, hd, hs, hns, hnp, hsu, hfr, hc⟩ | ⟨_, h2⟩
      · refine FunD.ok (k := 2 * k + 1) hd hs (fun vs H Q E q => q.1) fun cdv A outer s H vs Q E hr q => ?_
        obtain ⟨hl, ι, M, ds, h, d, h', scn, r, e, Kk⟩ := q
        unfold callN at e
        rw [hf] at e
        obtain ⟨h1, e⟩ := ite_ok e
        rw [hsu] at e
        have hb : ∀ {r : R D}, (if fd.fr then R.no else r) = R.ok d h' → x.frs f = false ∧ r = R.ok d h' := fun z => by
          rw [hfr] at z
          cases hx : x.frs f with
          | true => rw [hx] at z; cases z
          | false => rw [hx] at z; exact ⟨rfl, z⟩
        have G : Gs tb (callN tb F k) x N (2 * k) ⟨⟨P, w, K, x.ca⟩, H, M, ι⟩ (cxOf cx0 P w K mg base N qual scope (x.fa f) cdv A outer s H E) :=
          ⟨⟨rfl, rfl, rfl, hs.nd, (by have := hr.un; show (A.deeper _).units + 65 < cLine; omega), T.tx, ih, hr⟩, fun _ => rfl, passes_of (K := fun e s' => cx0 outer H s E e s') rfl, hs.kind⟩
        refine ⟨tSs tb (callN tb F k) ⟨⟨P, w, K, x.ca⟩, H, M, ι⟩ fd.body, pb_ok (callN_np T k) fd.body _ ⟨⟨P, w, K, x.ca⟩, H, M, ι⟩ body G hc, ?_⟩
        have hpl : (x.fps f).length ≤ N.length := by have := congrArg List.length hs.pre; rw [List.length_take] at this; omega
        have rl := scn.rel r (N := N) (by rw [hl]; exact hpl)
        rw [← hns] at rl
        have mu : ∀ a, Mu M ι (startE fd.ns ds) (L2.start N vs) a → M a := fun a m => by
          rcases m with m | m | ⟨i, ⟨d, z⟩, _⟩
          · exact m
          · exact scn.sub a m
          · rcases startE_get z with ⟨_, _, z⟩ | z <;> cases z
        refine ⟨⟨ι, M, H⟩, ι, startE fd.ns ds, h, ⟨rl, .less mu, scn.known⟩, ?_⟩
        have e' : (match execs tb (callN tb F k) fd.body (startE fd.ns ds) h with
          | .nx _ h => if fd.fr then .no else R.ok D.non h
          | .rt d h => if fd.fr then .no else .ok d h
          | .rtF d h => if fd.fr then .ok d h else .no
          | .ex c fs _ h => .ex c fs h
          | _ => .no) = R.ok d h' := e
        cases hx : execs tb (callN tb F k) fd.body (startE fd.ns ds) h with
        | nx e2 h2 =>
          rw [hx] at e'
          obtain ⟨f0, e'⟩ := hb e'
          cases e'
          exact fun ι' σ' H' r' => Kk ι' H' .non (r'.rl.aft r'.go scn.sub) (fun _ => .non) fun z => by rw [f0] at z; cases z
        | rt d2 h2 =>
          rw [hx] at e'
          obtain ⟨f0, e'⟩ := hb e'
          cases e'
          refine fun ι' e2 σ' H' v r' rp => Kk ι' H' v (r'.rl.aft r'.go scn.sub) (fun _ => rp.go (.less fun a m => ?_)) fun z => by rw [f0] at z; cases z
          rcases m with m | m
          · exact .inl m
          · exact .inr (.inl m)
        | rtF d2 h2 =>
          rw [hx] at e'
          have e2 : (if fd.fr then R.ok d2 h2 else R.no) = R.ok d h' := e'
          rw [hfr] at e2
          cases f0 : x.frs f with
          | false => rw [f0] at e2; cases e2
          | true =>
            rw [f0] at e2
            cases e2
            refine fun ι' e2 σ' H' p r' => ?_
            have rd := r'.rl.drop
            have sub : ∀ a, ((M a ∨ a ∈ ι') ∨ a = p) → Mu (SP1 ⟨⟨P, w, K, x.ca⟩, H, M, ι⟩ p).M0 ι' e2 σ' a := fun a m => SP1.mu.mpr (by
              rcases m with (m | m) | m
              · exact .inl (.inl m)
              · exact .inl (.inr (.inl m))
              · exact .inr m)
            have gl : Go ι' (Mu (SP1 ⟨⟨P, w, K, x.ca⟩, H, M, ι⟩ p).M0 ι' e2 σ') H' ι' (fun a => (M a ∨ a ∈ ι') ∨ a = p) H' := .less sub
            refine Kk ι' H' (.ref p) (rd.aft (r'.go.trans SP1.less) scn.sub) (fun z => by rw [f0] at z; cases z) fun _ => ⟨p, rfl, r'.h0, r'.ni, fun n d q => ?_, r'.c.go gl fun _ z => z⟩
            obtain ⟨a, q1, q2⟩ := r'.rl.hp n d q
            exact ⟨a, q1, q2.go gl fun _ z => z⟩
        | ct e2 h2 => rw [hx] at e'; cases e'
        | bk e2 h2 => rw [hx] at e'; cases e'
        | ex c fs e2 h2 => rw [hx] at e'; cases e'
        | no => rw [hx] at e'; cases e'
      · exact h2 k ih
end
end MP

set_option maxRecDepth 100000
set_option maxHeartbeats 1000000
/-! MP25: a method that only says return super().m(x). -/
namespace MP
open PySem PySem.Spec PyProof.Rows L2 PySem.W PySem.Calls NdefX

structure SupD where
  name : Str
  qual : Str
  params : Arguments
  scope : Scope
  m : Str
  s : Str
  y : Str
  p0 : Pos
  p1 : Pos
  ap : Pos
  py : Pos
  p3 : Pos
  p4 : Pos
def SupD.body (d : SupD) : List Stmt := [.Return (some (.Call (.Attribute (.Call (.Name "super" d.p0) [] [] d.p1) d.m d.ap) [.Name d.y d.py] [] d.p3)) d.p4]
abbrev SupD.nf (d : SupD) (cc cda : Addr) : NF := ⟨d.name, d.qual, d.params, d.body, d.scope, [("__class__", cc)], cda⟩
structure SupK (P : Program) (K : PySem.W.Frag) (d : SupD) (f f2 D C : Addr) (cc cda : Addr) (fd : FuncData) : Prop where
  lk : ∃ (oc : Value) (od : Option Addr) (osl : Array (Option Value)) (doc pm ctv : Value), fd = (d.nf cc cda).fd doc pm ctv ∧ K.lookup f = some ⟨oc, od, .func fd, osl⟩
  hcd : codeIn K (.ref cda) d.qual = true
  sc : NScope [d.s, d.y, "__class__"] [d.s, d.y] ["__class__"] d.scope
  sup : d.scope.names.lookup ("super" : Str) = some .globalImplicit
  head : ∃ ar, (d.params.posonlyargs ++ d.params.args).head? = some ar ∧ ar.arg = d.s
  code : ∃ (ccl : Value) (cdd : Option Addr) (vs : Array Value) (ccs : Array (Option Value)) (file : Str) (tf : Tok), K.lookup cda = some ⟨ccl, cdd, .fields vs, ccs⟩ ∧ vs[2]? = some (.str file tf) ∧ ((P.main.file : Str) == file) = true
  cell : ∃ (cl : Value) (cld : Option Addr) (csl : Array (Option Value)), K.lookup cc = some ⟨cl, cld, .cell (some (.ref D)), csl⟩
  cls : ∃ cdD, clsIn K D = some cdD
  sub : mroIn K C (.ref D) = some true
  top : (P.main.scope.names.lookup ("super" : Str)).isSome = false
  along : ks_superIn K C D d.m = some (some (.ref f2))
  typ : typeIn K (.ref f2) = some (.type "function")
  fn2 : fnIn K f2 = true
  nm : (d.m == ("__class__" : Str)) = false
  opq : nsIn K cStatics "thirdparty.any" = some none
  ln : (d.ap.endLine == d.p3.line) = true
  dbg : (d.y == ("__debug__" : Str)) = false
theorem fnok_sup {P : Program} {w : World} {K : PySem.W.Frag} {mg : Str → Option Value} {base : Heap} {k : Nat} {d : SupD} {f f2 D C cc cda : Addr} {fd fd2 : FuncData} {ps2 : List Str} {sp : Sp} (S : SupK P K d f f2 D C cc cda fd) (hsup : mg ("super" : Str) = none)
    (F2 : FnOk P w K mg base cx0 k f2 fd2 ps2 sp) (b2 : Binds K fd2 ps2 []) : FnOk P w K mg base cx0 (k + 1) f fd [d.s, d.y] (fun vs H Q E => (∃ a dx fs v, vs = [.ref a, v] ∧ H a = some (.ins C dx fs)) ∧ sp vs H Q E) := by
  refine ⟨fun vs H Q E ⟨⟨a, dx, fs, v, e, _⟩, _⟩ => by rw [e]; rfl, fun A outer s H args us vs Q E hr e0 hb r ⟨⟨a, dx, fs, v2, ev, ha⟩, hsp⟩ => ?_⟩
  subst ev
  obtain ⟨u1, u2, rfl, ru1, ru2⟩ := r.two
  obtain rfl : u1 = Value.ref a := ru1
  obtain ⟨oc, od, osl, doc, pm, ctv, rfl, lk⟩ := S.lk
  obtain ⟨ar, har, hars⟩ := S.head
  obtain ⟨ccl, cdd, cvs, ccs, file, tf, hcode, hvs, hfile⟩ := S.code
  obtain ⟨cl, cld, csl, hcell⟩ := S.cell
  obtain ⟨cdD, hD⟩ := S.cls
  have kb : ∀ b o, base.get? b = some o → s.heap.get? b = some o := fun b o e => (e0.bs b o e).1
  have KX : K.In s.heap := e0.mod.kin.keeps kb
  have lim : s.heap.NoLimit := e0.mod.nolimit.keeps kb
  obtain ⟨mA, O, _, _, _, hdx⟩ := ins_get e0.hok ha
  obtain ⟨odx, Ia, _⟩ := O.look
  refine ks_codeAny_call_defAt (fd := (d.nf cc cda).fd doc pm ctv) (body := d.body) (binds := [(d.s, .ref a), (d.y, u2)]) hr.depth (KX _ _ lk) rfl lim (codeRec_of KX S.hcd) rfl hb S.sc.nocell (fun x hx => ?_) (fun h₀ hns hk => ?_) S.sc.co S.sc.gen S.sc.kind
  · rcases List.mem_cons.mp hx with rfl | hx
    · exact S.sc.par _ (by simp)
    · rcases List.mem_cons.mp hx with rfl | hx
      · exact S.sc.par _ (by simp)
      · cases hx
  have K0 : K.In h₀ := KX.keeps hk
  show _root_.PySem.wpAt (model P w) (A.deeper (envF (d.nf cc cda) f s.heap.objs.size)) (.func d.body (envF (d.nf cc cda) f s.heap.objs.size)) (PySem.execs d.body (envF (d.nf cc cda) f s.heap.objs.size)) _ _ _
  refine ks_wpAt_execs_cons (ks_wpAt_Return_some (ks_wpAt_MethodCall (pl := (do return (← importBound (.Call (.Name "super" d.p0) [] [] d.p1) (envF (d.nf cc cda) f s.heap.objs.size)).getD true)) ?_ ?he))
  case he =>
    refine congrArg (fun k => attributeBase (.Call (.Name "super" d.p0) [] [] d.p1) d.m (envF (d.nf cc cda) f s.heap.objs.size) (eval (.Call (.Name "super" d.p0) [] [] d.p1) (envF (d.nf cc cda) f s.heap.objs.size)) >>= k) (funext fun ov => congrArg (fun k => standAt d.ap.atName >>= k) (funext fun _ => ?_))
    unfold methodCall
    rw [show methodCallForm ([Expr.Name d.y d.py].length + ([] : List Keyword).length) (backTo d.p3 (starEach [.Name d.y d.py] (envF (d.nf cc cda) f s.heap.objs.size))) (backToKw d.p3 (keywordEach [] (envF (d.nf cc cda) f s.heap.objs.size))) = true from rfl]
    unfold methodCallPos
    rw [S.ln]
    rfl
  have hlenNs : (fun x => List.lookup x ([(d.s, Value.ref a), (d.y, u2)] : List (Str × Value)).reverse) d.s = some (.ref a) := by
    have nd := S.sc.nd
    have hne : d.s ≠ d.y := fun z => by rw [z] at nd; simp at nd
    have hb2 : (d.s == d.y) = false := beq_eq_false_iff_ne.mpr hne
    show List.lookup d.s [(d.y, u2), (d.s, .ref a)] = _
    rw [List.lookup_cons, hb2]
    show List.lookup d.s [(d.s, Value.ref a)] = _
    rw [List.lookup_cons, beq_self_eq_true]
  have hy : (fun x => List.lookup x ([(d.s, Value.ref a), (d.y, u2)] : List (Str × Value)).reverse) d.y = some u2 := by
    show List.lookup d.y [(d.y, u2), (d.s, .ref a)] = _
    rw [List.lookup_cons, beq_self_eq_true]
  have hkof : ∀ z, (envF (d.nf cc cda) f s.heap.objs.size).kindOf z = d.scope.names.lookup z := fun z => rfl
  obtain ⟨mb, hbl, hbb⟩ := e0.mod.blt
  refine ks_wpAt_super_base (env := envF (d.nf cc cda) f s.heap.objs.size) (f := f) (cc := cda) (file := file) (tf := tf) (ar := ar) S.sup (S.sc.frk _ (by simp)) S.nm rfl (K0 _ _ lk) rfl har rfl (K0 _ _ hcode) rfl hvs hfile S.top ?_
  refine ks_loadName_global S.sc.kind S.sup (loadGlobal_builtin (env := envF (d.nf cc cda) f s.heap.objs.size) (e0.mod.glob.keeps fun b o e => hk b o (kb b o e)) hsup (hbl.keeps fun b o e => hk b o (kb b o e)) ((hbb _ (by decide)).trans (by first | rfl | decide +kernel)) ⟨rfl, ?_⟩)
  refine wpAny_loadName_free S.sc.kind (S.sc.frk _ (by simp)) (by rfl) ⟨_, K0 _ _ hcell, rfl⟩ ?_
  rw [hars]
  refine wpAny_loadName_local S.sc.kind (S.sc.par _ (by simp)) hns hlenNs ?_
  obtain ⟨oD, hD1, hD2⟩ : ∃ oD, h₀.get? D = some oD ∧ oD.data = .cls cdD := by
    unfold clsIn at hD
    split at hD
    · rename_i c d cd' sl ho
      cases hD
      exact ⟨_, K0 _ _ ho, rfl⟩
    · cases hD
  refine ks_wpAny_isType_cls hD1 hD2 ⟨rfl, ?_⟩
  have Ia0 : h₀.get? a = some _ := hk _ _ Ia.at_
  have hnc : ∀ c, (instObj C dx).data ≠ .cls c := fun c e => by
    have := Ia.no
    unfold notCls at this
    rw [e] at this
    exact Bool.noConfusion this
  refine ks_wpAny_call_super hD1 hD2 Ia0 Ia.cls hnc (looks_mroIn K0 S.sub) (fun h1 hso k1 => ?_)
  have K1 : K.In h1 := K0.keeps k1
  -- the method
  cases hcC : clsIn K C with
  | none =>
    have := S.along
    unfold ks_superIn at this
    rw [hcC] at this
    cases this
  | some cdC =>
    have hal := S.along
    unfold ks_superIn at hal
    rw [hcC] at hal
    obtain ⟨of, hof, hofc⟩ : ∃ of, h1.get? f2 = some of ∧ of.cls = .type "function" := by
      have ht' : (K.lookup f2).map (·.cls) = some (.type "function") := S.typ
      cases z : K.lookup f2 with
      | none => rw [z] at ht'; cases ht'
      | some of => rw [z] at ht'; exact ⟨of, K1 _ _ z, Option.some.inj ht'⟩
    have hxC : a ≠ C := by
      rintro rfl
      unfold clsIn at hcC
      split at hcC
      · rename_i c d cd' sl ho
        have e := KX _ _ ho
        rw [Ia.at_] at e
        cases e
      · cases hcC
    refine ks_wpAny_getMethod_super hso (looks_opaque K1 S.opq) (l₀ := cdC.mro) (fun A Q E s k q => wpAny_bind ((looks_clsIn K1 hcC) A _ E s k (wpAny_pure q))) rfl K1 hal hof hofc hxC S.nm ?_
    -- the call of it
    have k2 : ∀ b o, h₀.get? b = some o → (h1.push { cls := .type "method", data := .fields #[.ref f2, .ref a] }).get? b = some o := fun b o e => Heap.get?_push_of_some _ (k1 b o e)
    have K2 := K0.keeps k2
    have I0 := inv_startN (CX := cx0) (E := E) (f := f) (F := d.nf cc cda) (ws := [none]) (tk := s.toks) S.sc hr.hd e0 rfl r ⟨rfl, fun y c hc => ?_, fun x y c hx hy => ?_, fun i y hi => ?_⟩ hns hk
    · have I2 := fun tk => I0.kept (t' := tk) k2
      refine PySem.W.callWith_of (P := MethP K h1.objs.size f2 (.ref a)) (by rfl) (keeps_M S.fn2) (PySem.Calls.evalArgs_plain ?_)
      show wpAny _ _ (spliced ((false, eval (.Name d.y d.py) (envF (d.nf cc cda) f s.heap.objs.size)) :: backTo d.p3 (starEach [] (envF (d.nf cc cda) f s.heap.objs.size)))) _ _ _
      refine Calls.spliced_cons (wpAny_Name (wpAny_loadName_local S.sc.kind (S.sc.par _ (by simp)) (hns.keeps k2) hy ?_) S.dbg)
      refine Calls.spliced_nil ⟨⟨Heap.get?_push_size _ rfl, K2⟩, wpAny_call (ks_codeAny_call_bound (Heap.get?_push_size _ rfl) ?_)⟩
      have J := I2 (s.toks + 2 + 1)
      refine codeAny_mono (F2.run _ _ _ H ⟨[.ref a, u2], []⟩ ([.ref a, u2] ++ []) [.ref a, v2] Q E (hr.deeper _) J.env0 (b2 _ [.ref a, u2] J.kIn ?_) r hsp) fun r s' hq => ?_
      · exact F2.len _ _ _ _ hsp
      · cases r with
        | error e => exact hq.elim
        | ok fl =>
          cases fl with
          | ret u =>
            obtain ⟨v, H', Z, rv, q⟩ := J.after hq
            exact ⟨v, H', Z.os, Z.bare, Z.base, Z.hok, rv, q⟩
          | next => exact False.elim hq
          | brk => exact False.elim hq
          | cont => exact False.elim hq
    · have e : y = ("__class__" : Str) ∧ c = cc := by
        rw [List.lookup_cons] at hc
        cases hb3 : (y == ("__class__" : Str)) with
        | true => rw [hb3] at hc; cases hc; exact ⟨beq_iff_eq.mp hb3, rfl⟩
        | false => rw [hb3] at hc; cases hc
      obtain ⟨_, rfl⟩ := e
      exact ⟨(e0.bs _ _ (e0.mod.kin _ _ hcell)).2, _, ⟨_, KX _ _ hcell, rfl⟩⟩
    · rw [List.lookup_cons] at hx hy
      cases hb3 : (x == ("__class__" : Str)) with
      | false => rw [hb3] at hx; cases hx
      | true =>
        cases hb4 : (y == ("__class__" : Str)) with
        | false => rw [hb4] at hy; cases hy
        | true => rw [beq_iff_eq.mp hb3, beq_iff_eq.mp hb4]
    · cases i with
      | zero =>
        cases hi
        exact ⟨cc, by rfl, fun v z => by cases z⟩
      | succ i => cases hi
section
variable {tb : Tb} {x : Tx} {F : Nat → Option Fd} {P : Program} {w : World} {K : PySem.W.Frag} {mg : Str → Option Value} {base : Heap}
theorem Scn.view {C : RC} {ι : List Addr} {M : Addr → Prop} {h : MH} {H : Hp} {v : V} {d c : D} (s : Scn C ι M h H) (r : Rep C ι M H v d) (q : view d h = some c) : VRep C ι M H v c := by
  cases d with
  | ref n =>
    cases r with
    | ref hn =>
      obtain ⟨a, h1, h2⟩ := s.hp n c q
      rw [hn] at h1
      cases h1
      exact h2.vw
  | _ =>
    cases q
    exact r.vw fun k z => by cases z
/-- .. in the small language: the method f of the class c goes on to the def g -/
theorem sup_fn {f g c : Nat} {fd : Fd} {d : SupD} {D cc cda : Addr} (hF : F f = some fd) (hs : fd.sup = some (c, g)) (S : SupK P K d (x.fa f) (x.fa g) D (x.ca c) cc cda (x.fdat f)) (hp : x.fps f = [d.s, d.y]) (hg : (x.fps g).length = 2) (hn : fd.np = 2) (hsup : mg ("super" : Str) = none) (b2 : Binds K (x.fdat g) (x.fps g) []) (hfr : x.frs f = x.frs g) :
    fd.np = (x.fps f).length ∧ ∀ k, (∀ g, FnOk P w K mg base cx0 (2 * k) (x.fa g) (x.fdat g) (x.fps g) (spF ⟨P, w, K, x.ca⟩ (x.fps g).length (x.frs g) (callN tb F k g))) →
    FnOk P w K mg base cx0 (2 * (k + 1)) (x.fa f) (x.fdat f) (x.fps f) (spF ⟨P, w, K, x.ca⟩ (x.fps f).length (x.frs f) (callN tb F (k + 1) f)) := by
  refine ⟨by rw [hn, hp]; rfl, fun k ih => ?_⟩
  have q := (fnok_sup (w := w) S hsup (ih g) b2).mono (show 2 * k + 1 ≤ 2 * (k + 1) by omega)
  rw [hp, hfr]
  refine q.imp fun vs H Q E ⟨hl, ι, M, ds, h, dr, h', scn, r, e, K⟩ => ?_
  unfold callN at e
  rw [hF] at e
  obtain ⟨h1, e⟩ := ite_ok e
  rw [hs] at e
  cases ds with
  | nil => cases e
  | cons x0 ds =>
    have e' : (match view x0 h with
      | some (.ins c' _) => if c' = c then callN tb F k g (x0 :: ds) h else .no
      | _ => .no) = R.ok dr h' := e
    cases hv : view x0 h with
    | none => rw [hv] at e'; cases e'
    | some dv =>
      rw [hv] at e'
      cases r with
      | @cons v vs _ _ r1 rs =>
        have rv := scn.view r1 hv
        cases rv with
        | @ins a c' dx vfs fs ha hfs =>
          obtain ⟨hc, e2⟩ := ite_ok e'
          subst hc
          have hl2 : vs.length = 1 := by simpa using hl
          cases vs with
          | nil => cases hl2
          | cons v2 vs =>
            cases vs with
            | cons _ _ => cases hl2
            | nil => exact ⟨⟨a, dx, vfs, v2, rfl, ha⟩, by rw [hg]; rfl, ι, M, x0 :: ds, h, dr, h', scn, .cons r1 rs, e2, K⟩
        | _ => cases e'
end
end MP

set_option maxRecDepth 100000
set_option maxHeartbeats 1000000
/-! MP26: a law's table, and what of it is looked up in the written part. -/
namespace MP
open PySem PySem.Spec PyProof.Rows L2

structure LT where
  cl : List Str
  fn : List (Str × Option Str)
  ps : List (List Str)
  gl : List (Str × D)
  fr : List Str
  mt : List ((Nat × Str) × Nat)
  ini : List (Nat × Nat)
  fl : List (Nat × Str)
  sb : List (List Bool)
  /-- the defs that hand back a new list or dict -/
  frs : List Nat := []
  /-- the defaults a def's call has, so many arguments given -/
  df : List ((Nat × Nat) × List D) := []
def LT.norm (L : LT) (c : Nat) : Nat := if c < L.cl.length then c else 0
def LT.tb (L : LT) (N : Nat) : Tb where
  meth := fun c m => (L.mt.find? fun p => decide (p.1.1 = c ∧ p.1.2 = m)).map (·.2)
  fld := fun c f => L.fl.any fun p => decide (p.1 = c ∧ p.2 = f)
  init := fun c => (L.ini.find? fun p => decide (p.1 = c)).map (·.2)
  sub := fun c t => (L.sb.getD (L.norm c) []).getD (L.norm t) false
  glo := fun g => (L.gl.getD g ("", .non)).2
  dfl := fun f n => ((L.df.find? fun p => decide (p.1.1 = f ∧ p.1.2 = n)).map (·.2)).getD []
  N := N
def LT.ca (L : LT) (K : PySem.W.Frag) (c : Nat) : Addr := He.ga K (L.cl.getD (L.norm c) "")
def LT.fa (L : LT) (K : PySem.W.Frag) (f : Nat) : Addr := He.fAd K (L.fn.getD f ("", none))
def LT.tx (L : LT) (K : PySem.W.Frag) (fdat : Nat → FuncData) : Tx where
  ca := L.ca K
  fa := L.fa K
  fdat := fdat
  fps := fun f => L.ps.getD f []
  frs := fun f => L.frs.contains f
  fnN := fun f => match L.fn[f]? with
    | some (n, none) => some n
    | _ => none
  clN := fun c => L.cl[c]?
  glN := fun g => (L.gl[g]?).map (·.1)
  free := fun n => L.fr.contains n
/-- a flat value -/
def D.fv : D → Option V
  | .non => some .non
  | .bl b => some (.bl b)
  | .int i => some (.int i)
  | .str x => some (.str x)
  | _ => none
def fvs : List D → Option (List V)
  | [] => some []
  | d :: r => match d.fv, fvs r with
    | some v, some l => some (v :: l)
    | _, _ => none
/-- u stands for the constant d: flat, or a tuple of such -/
def cB (K : PySem.W.Frag) (d : D) (u : Value) : Bool := match d.fv with
  | some v => He.relB v u
  | none => (match d, u with
    | .tup ds, .ref a => (match fvs ds, K.lookup a with
      | some vs, some ⟨.type c, none, .seq its _, _⟩ => decide (c = "tuple") && (decide (its.size ≤ sizeLine) && He.relAll vs its.toList)
      | _, _ => false)
    | _, _ => false)
def cBs (K : PySem.W.Frag) : List (D × D) → List DictEntry → Bool
  | [], [] => true
  | (.str x, d) :: r, e :: es => (match e.key with
    | .str y _ => decide (y = x)
    | _ => false) && (cB K d e.val && cBs K r es)
  | _, _ => false
def keyS : D → Str
  | .str x => x
  | _ => Str.empty
def glB2 (K : PySem.W.Frag) (u : Value) (d : D) : Bool := match d, u with
  | .dct ds, .ref a => (match K.lookup a with
    | some ⟨_, _, .dict es _, _⟩ => cBs K ds es.toList && (decide (ds.length ≤ sizeLine) && decide ((ds.map fun p => keyS p.1).Nodup))
    | _ => false)
  | _, _ => cB K d u
def glV (K : PySem.W.Frag) (x : Str) (d : D) : Bool := match PySem.W.nsIn K mainGlobals x with
  | some (some u) => glB2 K u d
  | _ => false
/-- the dicts among the constants: as they stand, as they should -/
def LT.tabs (L : LT) (K : PySem.W.Frag) : List (Option (List (Option (Str × Int)))) := L.gl.map fun p => match p.2 with
  | .dct _ => He.dicW K (He.ga K p.1)
  | _ => none
def LT.tabV (L : LT) (w : World) : List (Option (List (Option (Str × Int)))) := L.gl.map fun p => match p.2 with
  | .dct ds => some (He.keysIn w.params (ds.map fun p => keyS p.1))
  | _ => none
def tyBases : List String := ["NoneType", "bool", "int", "str", "list", "tuple"]
def tyAll : List Ty := [.int, .str, .bool, .list, .tuple]
def LT.ok (L : LT) (K : PySem.W.Frag) : Bool :=
  decide (0 < L.cl.length) &&
  (L.cl.all fun x => (He.Fa.cls x).ok K && (He.eqO (PySem.W.findIn K (.ref (He.ga K x)) "__class__") (some (some (.builtin "object.__class__"))) && decide (PySem.W.mroIn K (He.ga K x) (.type "object") = some true))) &&
  (He.eqO (PySem.W.specialIn K (.builtin "object.__class__") "__get__") (some (some (.builtin "getset_descriptor.__get__"))) && decide (PySem.W.takesIn K (.builtin "object.__class__") = some true)) &&
  (tyBases.all fun n => (tyAll.all fun t => decide (PySem.W.kitOne K (.type n) (tyVal (L.ca K) t) = some (bIs n t))) && (L.cl.all fun x => decide (PySem.W.kitOne K (.type n) (.ref (He.ga K x)) = some false))) &&
  ((List.range L.cl.length).all fun c => (tyAll.all fun t => decide (PySem.W.kitOne K (.ref (L.ca K c)) (tyVal (L.ca K) t) = some false)) && ((List.range L.cl.length).all fun t => decide (PySem.W.kitOne K (.ref (L.ca K c)) (.ref (L.ca K t)) = some ((L.tb 0).sub c t)))) &&
  (L.mt.all fun p => He.eqO (PySem.W.findIn K (.ref (L.ca K p.1.1)) p.1.2) (some (some (.ref (L.fa K p.2)))) && (PySem.W.isFn K (.ref (L.fa K p.2)) && PySem.W.keepIn K (.ref (L.fa K p.2)))) &&
  (L.ini.all fun p => PySem.W.makesIn K (L.ca K p.1) && (He.eqO (PySem.W.findIn K (.ref (L.ca K p.1)) "__init__") (some (some (.ref (L.fa K p.2)))) && (PySem.W.isFn K (.ref (L.fa K p.2)) && PySem.W.keepIn K (.ref (L.ca K p.1))))) &&
  (L.fl.all fun p => He.eqO (PySem.W.findIn K (.ref (L.ca K p.1)) p.2) (some none)) &&
  (L.cl.all fun x => (He.Fa.glo x).ok K) && (L.fr.all fun x => (He.Fa.free x).ok K) &&
  (L.fn.all fun p => match p with
    | (n, none) => (He.Fa.glo n).ok K && PySem.W.keepIn K (.ref (He.ga K n))
    | _ => true) &&
  (L.gl.all fun p => glV K p.1 p.2) && (L.cl.all fun x => PySem.W.noSeq K (He.ga K x)) && (L.mt.all fun p => PySem.W.fnIn K (L.fa K p.2))
theorem fvs_rep {C : RC} : ∀ {ds : List D} {vs : List V}, fvs ds = some vs → ∀ ι M H, Reps C ι M H vs ds
  | [], _, h, ι, M, H => by cases h; exact .nil
  | d :: ds, vs, h, ι, M, H => by
    have h' : (match d.fv, fvs ds with
      | some v, some l => some (v :: l)
      | _, _ => none) = some vs := h
    cases hd : d.fv with
    | none => rw [hd] at h'; cases h'
    | some v =>
      cases hr : fvs ds with
      | none => rw [hd, hr] at h'; cases h'
      | some l =>
        rw [hd, hr] at h'
        cases h'
        refine .cons ?_ (fvs_rep hr ι M H)
        cases d <;> cases hd <;> constructor
theorem cB_ok {C : RC} {K : PySem.W.Frag} {d : D} {u : Value} (hK : C.K = K) (h : cB K d u = true) : ∃ v, RelV v u ∧ ∀ ι M H, Rep C ι M H v d := by
  unfold cB at h
  cases hv : d.fv with
  | some v =>
    rw [hv] at h
    refine ⟨v, He.relB_ok h, fun ι M H => ?_⟩
    cases d <;> cases hv <;> constructor
  | none =>
    rw [hv] at h
    cases d with
    | tup ds =>
      cases u with
      | ref a =>
        have h' : (match fvs ds, K.lookup a with
          | some vs, some ⟨.type c, none, .seq its _, _⟩ => decide (c = "tuple") && (decide (its.size ≤ sizeLine) && He.relAll vs its.toList)
          | _, _ => false) = true := h
        cases hf : fvs ds with
        | none => rw [hf] at h'; cases h'
        | some vs =>
          cases q : K.lookup a with
          | none => rw [hf, q] at h'; cases h'
          | some o =>
            obtain ⟨oc, od, dt, osl⟩ := o
            rw [hf, q] at h'
            cases oc with
            | type c =>
              cases od with
              | none =>
                cases dt with
                | seq its n =>
                  obtain ⟨h1, h2⟩ := He.ba (show (decide (c = "tuple") && (decide (its.size ≤ sizeLine) && He.relAll vs its.toList)) = true from h')
                  obtain ⟨h3, h4⟩ := He.ba h2
                  exact ⟨.ref a, rfl, fun ι M H => .tup (.inr ⟨_, its, n, by rw [hK]; exact q, rfl, congrArg Value.type (of_decide_eq_true h1), rfl, of_decide_eq_true h3, He.relAll_ok h4⟩) (fvs_rep hf ι M H)⟩
                | _ => cases h'
              | some _ => cases dt <;> cases h'
            | _ => cases od <;> cases dt <;> cases h'
      | _ => cases h
    | _ => cases u <;> cases h
theorem cBs_ok {C : RC} {K : PySem.W.Frag} (hK : C.K = K) : ∀ {ds : List (D × D)} {es : List DictEntry}, cBs K ds es = true → PySem.W.KeysLit C.w.params es →
    ∃ xs : List (Str × V), xs.map (·.1) = ds.map (fun p => keyS p.1) ∧ Paired (fun (p : Str × V) (e : DictEntry) => (∃ t, e.key = .str p.1 t) ∧ e.hash = hashStr C.w p.1 ∧ RelV p.2 e.val) xs es ∧ ∀ ι M H, RepGs C ι M H xs ds
  | [], [], _, _ => ⟨[], rfl, .nil, fun _ _ _ => .nil⟩
  | [], _ :: _, h, _ => by cases h
  | (k, d) :: r, es, h, l => by
    cases k <;> first | (cases h; done) | skip
    rename_i x
    cases es with
    | nil => cases h
    | cons e es =>
      have h' : ((match e.key with
        | .str y _ => decide (y = x)
        | _ => false) && (cB K d e.val && cBs K r es)) = true := h
      obtain ⟨h1, h2⟩ := He.ba h'
      obtain ⟨h3, h4⟩ := He.ba h2
      obtain ⟨⟨y, t, l1, l2⟩, l3⟩ := l
      obtain ⟨v, rv, rp⟩ := cB_ok hK h3
      obtain ⟨xs, e1, e2, e3⟩ := cBs_ok hK h4 l3
      rw [l1] at h1
      have e4 : y = x := of_decide_eq_true h1
      subst e4
      exact ⟨(y, v) :: xs, by simp only [List.map_cons, e1]; rfl, .cons ⟨⟨t, l1⟩, l2, rv⟩ e2, fun ι M H => .cons (rp ι M H) (e3 ι M H)⟩
theorem glB2_ok {C : RC} {K : PySem.W.Frag} {u : Value} {d : D} (hK : C.K = K) (h : glB2 K u d = true) (hd : ∀ a ds, d = .dct ds → u = .ref a → He.dicW K a = some (He.keysIn C.w.params (ds.map fun p => keyS p.1))) : ∃ v, RelV v u ∧ ∀ ι M H, Rep C ι M H v d := by
  cases d with
  | dct ds =>
    cases u with
    | ref a =>
      obtain ⟨es, n, kd⟩ := He.dicW_ok (hd a ds rfl rfl)
      have h' : (match K.lookup a with
        | some ⟨_, _, .dict es _, _⟩ => cBs K ds es.toList && (decide (ds.length ≤ sizeLine) && decide ((ds.map fun p => keyS p.1).Nodup))
        | _ => false) = true := h
      rw [kd.at_] at h'
      obtain ⟨h1, h2⟩ := He.ba (show (cBs K ds es.toList && (decide (ds.length ≤ sizeLine) && decide ((ds.map fun p => keyS p.1).Nodup))) = true from h')
      obtain ⟨h3, h4⟩ := He.ba h2
      obtain ⟨xs, e1, e2, e3⟩ := cBs_ok hK h1 kd.lit
      have hl : xs.length = ds.length := by have := congrArg List.length e1; simpa using this
      exact ⟨.ref a, rfl, fun ι M H => .dctG ⟨es, n, by rw [hK]; exact kd.at_, kd.low, by rw [hl]; exact of_decide_eq_true h3, by rw [e1]; exact of_decide_eq_true h4, e2⟩ (e3 ι M H)⟩
    | _ => cases h
  | _ => exact cB_ok hK (by cases u <;> exact h)
theorem norm_lt {L : LT} (h : 0 < L.cl.length) (c : Nat) : L.norm c < L.cl.length := by
  unfold LT.norm
  split
  · assumption
  · exact h
theorem norm_norm {L : LT} (h : 0 < L.cl.length) (c : Nat) : L.norm (L.norm c) = L.norm c := by
  have := norm_lt h c
  show (if L.norm c < L.cl.length then L.norm c else 0) = L.norm c
  rw [if_pos this]
theorem LT.txF {L : LT} {K : PySem.W.Frag} {P : Program} {w : World} {N : Nat} {h : Heap} {mg : Str → Option Value} {fdat : Nat → FuncData} (X : K.In h) (G : h.Ns mainGlobals mg) (ok : L.ok K = true) (ht : L.tabs K = L.tabV w) (hb : ∀ f, Binds K (fdat f) ((L.tx K fdat).fps f) [])
    (hbD : ∀ f n, n + ((L.tb N).dfl f n).length = ((L.tx K fdat).fps f).length → ∃ ds dvs, Binds K (fdat f) ((L.tx K fdat).fps f) ds ∧ Vals dvs ds ∧ ∀ ι M H, Reps ⟨P, w, K, L.ca K⟩ ι M H dvs ((L.tb N).dfl f n)) :
    TxF (L.tb N) (L.tx K fdat) ⟨P, w, K, L.ca K⟩ mg := by
  unfold LT.ok at ok
  simp only [Bool.and_eq_true, List.all_eq_true] at ok
  obtain ⟨⟨⟨⟨⟨⟨⟨⟨⟨⟨⟨⟨⟨o1, o2⟩, o3⟩, o4⟩, o5⟩, o6⟩, o7⟩, o8⟩, o9⟩, o10⟩, o11⟩, o12⟩, o13⟩, o14⟩ := ok
  have h0 : 0 < L.cl.length := of_decide_eq_true o1
  have mem : ∀ c, L.cl.getD (L.norm c) "" ∈ L.cl := fun c => by
    have := norm_lt h0 c
    rw [List.getD_eq_getElem?_getD, List.getElem?_eq_getElem this]
    exact List.getElem_mem this
  have can : ∀ c, L.ca K (L.norm c) = L.ca K c := fun c => by unfold LT.ca; rw [norm_norm h0]
  refine ⟨fun f n hn => ?_, fun c n hn => ?_, fun g n hn => ?_, fun n hn => ?_, fun c m f hm => ?_, fun c m f hm => ?_, fun c f hm => ?_, fun c f hm => ?_, fun c => ?_, ⟨fun n t hn => ?_, fun c t => ?_⟩, hb, hbD⟩
  · have hn' : (match L.fn[f]? with
      | some (n, none) => some n
      | _ => none) = some n := hn
    split at hn'
    · rename_i m hf
      cases hn'
      obtain ⟨a, b⟩ := He.ba (show ((He.Fa.glo n).ok K && PySem.W.keepIn K (.ref (He.ga K n))) = true from o11 _ (List.mem_of_getElem? hf))
      have e : L.fa K f = He.ga K n := by
        unfold LT.fa
        rw [List.getD_eq_getElem?_getD, hf]
        rfl
      show mg n = some (.ref (L.fa K f)) ∧ PySem.W.keepIn K (.ref (L.fa K f)) = true
      rw [e]
      exact ⟨He.glo_ok X G a, b⟩
    · cases hn'
  · have hc : L.cl[c]? = some n := hn
    have hlt : c < L.cl.length := by
      by_cases z : c < L.cl.length
      · exact z
      · rw [List.getElem?_eq_none (by omega)] at hc; cases hc
    have e : L.ca K c = He.ga K n := by
      unfold LT.ca LT.norm
      rw [if_pos hlt, List.getD_eq_getElem?_getD, hc]
      rfl
    show mg n = some (.ref (L.ca K c))
    rw [e]
    exact He.glo_ok X G (o9 _ (List.mem_of_getElem? hc))
  · have hg : (L.gl[g]?).map (·.1) = some n := hn
    obtain ⟨p, hp, rfl⟩ := Option.map_eq_some_iff.mp hg
    have a := o12 _ (List.mem_of_getElem? hp)
    have e : (L.tb N).glo g = p.2 := by
      show (L.gl.getD g ("", .non)).2 = p.2
      rw [List.getD_eq_getElem?_getD, hp]
      rfl
    rw [e]
    unfold glV at a
    cases q : PySem.W.nsIn K mainGlobals p.1 with
    | none => rw [q] at a; cases a
    | some o =>
      rw [q] at a
      cases o with
      | none => cases a
      | some u =>
        obtain ⟨v, r1, r2⟩ := glB2_ok (C := ⟨P, w, K, L.ca K⟩) rfl a fun a ds h1 h2 => by
          have hz := congrArg (fun l : List (Option (List (Option (Str × Int)))) => l[g]?) ht
          unfold LT.tabs LT.tabV at hz
          simp only [List.getElem?_map, hp, Option.map_some, h1] at hz
          have e2 : He.ga K p.1 = a := by
            unfold He.ga
            rw [q, h2]
          rw [← e2]
          exact Option.some.inj hz
        exact ⟨u, v, PySem.W.mg_of X G q, r1, r2⟩
  · have hf : L.fr.contains n = true := hn
    exact He.free_ok X G (o10 n (by simpa using hf))
  · have hm' : (L.mt.find? fun p => decide (p.1.1 = c ∧ p.1.2 = m)).map (·.2) = some f := hm
    obtain ⟨p, hp, rfl⟩ := Option.map_eq_some_iff.mp hm'
    have hq : decide (p.1.1 = c ∧ p.1.2 = m) = true := List.find?_some (p := fun p : (Nat × Str) × Nat => decide (p.1.1 = c ∧ p.1.2 = m)) hp
    obtain ⟨rfl, rfl⟩ := of_decide_eq_true hq
    obtain ⟨a, b, d⟩ := o6 _ (List.mem_of_find?_eq_some hp)
    exact ⟨He.eqO_ok a, b, d⟩
  · have hm' : (L.mt.find? fun p => decide (p.1.1 = c ∧ p.1.2 = m)).map (·.2) = some f := hm
    obtain ⟨p, hp, rfl⟩ := Option.map_eq_some_iff.mp hm'
    exact o14 _ (List.mem_of_find?_eq_some hp)
  · have hm' : (L.ini.find? fun p => decide (p.1 = c)).map (·.2) = some f := hm
    obtain ⟨p, hp, rfl⟩ := Option.map_eq_some_iff.mp hm'
    have hq : decide (p.1 = c) = true := List.find?_some (p := fun p : Nat × Nat => decide (p.1 = c)) hp
    have e := of_decide_eq_true hq
    subst e
    obtain ⟨a, b, d, e⟩ := o7 _ (List.mem_of_find?_eq_some hp)
    exact ⟨a, He.eqO_ok b, d, e⟩
  · have hm' : (L.fl.any fun p => decide (p.1 = c ∧ p.2 = f)) = true := hm
    obtain ⟨p, hp, e⟩ := List.any_eq_true.mp hm'
    obtain ⟨rfl, rfl⟩ := of_decide_eq_true e
    exact He.eqO_ok (o8 _ hp)
  · obtain ⟨a, b, d⟩ := o2 _ (mem c)
    exact ⟨o13 _ (mem c), He.cls_ok a, He.eqO_ok b, He.eqO_ok o3.1, of_decide_eq_true o3.2, of_decide_eq_true d⟩
  · obtain ⟨a, b⟩ := o4 n hn
    cases t with
    | cls t =>
      have e : bIs n (.cls t) = false := by
        have : n ∈ tyBases := hn
        simp only [tyBases, List.mem_cons, List.mem_nil_iff, or_false] at this
        rcases this with rfl | rfl | rfl | rfl | rfl | rfl <;> rfl
      rw [e]
      exact of_decide_eq_true (b _ (mem t))
    | _ => exact of_decide_eq_true (a _ (by simp [tyAll]))
  · obtain ⟨a, b⟩ := o5 (L.norm c) (List.mem_range.mpr (norm_lt h0 c))
    rw [can] at a b
    cases t with
    | cls t =>
      have q := of_decide_eq_true (b (L.norm t) (List.mem_range.mpr (norm_lt h0 t)))
      rw [can] at q
      have e : (L.tb 0).sub (L.norm c) (L.norm t) = (L.tb N).sub c t := by
        show (L.sb.getD (L.norm (L.norm c)) []).getD (L.norm (L.norm t)) false = (L.sb.getD (L.norm c) []).getD (L.norm t) false
        rw [norm_norm h0, norm_norm h0]
      rw [e] at q
      exact q
    | _ => exact of_decide_eq_true (a _ (by simp [tyAll]))
end MP

set_option maxRecDepth 100000
set_option maxHeartbeats 1000000
/-! MP27: the head: what is looked at when a law's top has run. -/
namespace MP
open PySem PySem.Spec PyProof.Rows L2

def dd (at_ : Str × Option Str) (name qual : Str) (st : Stmt) (dfl : List He.Dv := []) : He.DefD := ⟨at_, name, qual, defArgs st, defBody st, defScope st, dfl, []⟩
structure SupAt where
  at_ : Str × Option Str
  base : Str × Option Str
  C : Str
  d : SupD
abbrev FnS : Type := Option (Str × Str × Arguments × FuncBody × Scope × Addr × List Str × Value × Value × Option Addr × Addr)
def fnS (K : PySem.W.Frag) (p : Str × Option Str) : FnS := match K.lookup (He.fAd K p) with
  | some ⟨_, _, .func fd, _⟩ => some (fd.name, fd.qualname, fd.params, fd.body, fd.scope, fd.globals, fd.closure.map (·.1), fd.defaults, fd.kwdefaults, fd.annotations, fd.builtins)
  | _ => none
def SupAt.val (s : SupAt) : FnS := some (s.d.name, s.d.qual, s.d.params, .stmts s.d.body, s.d.scope, mainGlobals, ["__class__"], .none, .none, none, builtinsNs)
def ccOf (K : PySem.W.Frag) (p : Str × Option Str) : Addr := match K.lookup (He.fAd K p) with
  | some ⟨_, _, .func fd, _⟩ => (match fd.closure with
    | [(_, c)] => c
    | _ => 0)
  | _ => 0
def cdOf (K : PySem.W.Frag) (p : Str × Option Str) : Addr := match K.lookup (He.fAd K p) with
  | some ⟨_, _, .func fd, _⟩ => (match fd.code with
    | .ref c => c
    | _ => 0)
  | _ => 0
def codeB (K : PySem.W.Frag) (p : Str × Option Str) : Bool := match K.lookup (He.fAd K p) with
  | some ⟨_, _, .func fd, _⟩ => decide (fd.code = .ref (cdOf K p))
  | _ => false
def fileB (K : PySem.W.Frag) (P : Program) (a : Addr) : Bool := match K.lookup a with
  | some ⟨_, _, .fields vs, _⟩ => (match vs[2]? with
    | some (Value.str file _) => (P.main.file : Str) == file
    | _ => false)
  | _ => false
def cellB (K : PySem.W.Frag) (a D : Addr) : Bool := match K.lookup a with
  | some ⟨_, _, .cell (some (.ref b)), _⟩ => decide (b = D)
  | _ => false
def SupAt.ok (K : PySem.W.Frag) (P : Program) (s : SupAt) : Bool :=
  codeB K s.at_ && PySem.W.codeIn K (.ref (cdOf K s.at_)) s.d.qual && fileB K P (cdOf K s.at_) && cellB K (ccOf K s.at_) (He.ga K s.C) && (PySem.W.clsIn K (He.ga K s.C)).isSome && decide (PySem.W.mroIn K (He.ga K s.C) (.ref (He.ga K s.C)) = some true) &&
  He.eqO (PySem.W.ks_superIn K (He.ga K s.C) (He.ga K s.C) s.d.m) (some (some (.ref (He.fAd K s.base)))) && decide (PySem.W.typeIn K (.ref (He.fAd K s.base)) = some (.type "function")) && PySem.W.fnIn K (He.fAd K s.base) && He.eqO (PySem.W.nsIn K PySem.cStatics "thirdparty.any") (some none)
/-- a law: its table, its defs, its methods that only go on -/
structure LawD where
  P : Program
  L : LT
  fn : List (Nat × He.DefD)
  sup : List (Nat × SupAt)
abbrev Al : Type := Bool × List He.FnW × List FnS × List (Option (List (Option (Str × Int))))
/-- an empty tuple of the written part -/
def eT (K : PySem.W.Frag) (a : Addr) : Bool := match K.lookup a with
  | some ⟨.type c, none, .seq its _, _⟩ => decide (c = "tuple") && its.toList.isEmpty
  | _ => false
def LawD.dfB (W : LawD) (K : PySem.W.Frag) : Bool := W.fn.all fun d => d.2.dfl.all fun v => match v.v K with
  | .ref a => eT K a
  | _ => false
def LawD.obsK (W : LawD) (K : PySem.W.Frag) : Al := ((W.fn.all fun d => d.2.ok K) && (W.L.ok K && W.dfB K) && (W.sup.all fun s => s.2.ok K W.P), W.fn.map (fun d => He.fnW K d.2.at_), W.sup.map (fun s => fnS K s.2.at_), W.L.tabs K)
def LawD.valK (W : LawD) (w : World) : Al := (true, W.fn.map (fun d => d.2.val), W.sup.map (fun s => s.2.val), W.L.tabV w)
/-- what the named objects name, four deep; the module's own names once -/
def grow1 (g : Addr → Option Obj) (seen front : List Addr) : List Addr := ((front.flatMap fun a => match g a with
  | some o => He.refsD o
  | none => []).filter fun a => !seen.contains a).eraseDups
def LawD.names (W : LawD) : List Str := (W.L.cl ++ (W.fn.map fun d => d.2.at_.1) ++ (W.sup.map fun s => s.2.at_.1) ++ W.L.gl.map (·.1)).eraseDups
def LawD.roots (W : LawD) (g : Addr → Option Obj) : List Addr := W.names.flatMap fun x => match PySem.W.nsIn (He.frG g [mainGlobals]) mainGlobals x with
  | some (some (.ref a)) => [a]
  | _ => []
def LawD.at (W : LawD) (g : Addr → Option Obj) : List Addr :=
  let l0 := [PySem.cStatics, mainGlobals, builtinsNs]
  let l1 := W.roots g
  let l2 := grow1 g (l0 ++ l1) l1
  let l3 := grow1 g (l0 ++ l1 ++ l2) l2
  let l4 := grow1 g (l0 ++ l1 ++ l2 ++ l3) l3
  let l5 := [PySem.cStatics, mainGlobals] ++ l1 ++ l2 ++ l3 ++ l4
  match W.fn.all fun d => d.2.dfl.isEmpty with
  | true => l5
  | false => l5 ++ W.fn.flatMap fun d => (List.range d.2.dfl.length).map fun i => He.dflAt d.2.at_ i (He.frG g l5)
def LawD.frK (W : LawD) (g : Addr → Option Obj) : PySem.W.Frag := He.frG g (W.at g)
def LawD.hk (W : LawD) : PySem.W.Hook where
  α := Al
  obs := fun s => W.obsK (W.frK s.heap.get?)
  val := fun w => W.valK w
  says := fun w h => ∃ K : PySem.W.Frag, K.In h ∧ W.obsK K = W.valK w
  of := fun _ _ e => ⟨_, He.frG_in, e⟩
  keeps := fun _ _ _ ⟨K, hK, c⟩ k => ⟨K, PySem.W.Frag.In.keeps hK k, c⟩
def LawD.ob (W : LawD) (s : PySem.W.SharedT) : Al := W.obsK (W.frK (HandSHeadRun.getT s))
theorem LawD.ob_eq (W : LawD) (s : PySem.W.SharedT) : W.ob s = W.hk.obs s.abs := by
  have e : HandSHeadRun.getT s = s.abs.heap.get? := funext (HandSHeadRun.getT_eq s)
  unfold LawD.ob
  rw [e]
  rfl
theorem supK_of {K : PySem.W.Frag} {P : Program} {s : SupAt} (e : fnS K s.at_ = s.val) (c : s.ok K P = true) (sc : NdefX.NScope [s.d.s, s.d.y, "__class__"] [s.d.s, s.d.y] ["__class__"] s.d.scope) (h1 : s.d.scope.names.lookup ("super" : Str) = some .globalImplicit)
    (h2 : ∃ ar, (s.d.params.posonlyargs ++ s.d.params.args).head? = some ar ∧ ar.arg = s.d.s) (h3 : (P.main.scope.names.lookup ("super" : Str)).isSome = false) (h4 : (s.d.m == ("__class__" : Str)) = false) (h5 : (s.d.ap.endLine == s.d.p3.line) = true) (h6 : (s.d.y == ("__debug__" : Str)) = false) :
    ∃ fd doc pm ctv, fd = (s.d.nf (ccOf K s.at_) (cdOf K s.at_)).fd doc pm ctv ∧ SupK P K s.d (He.fAd K s.at_) (He.fAd K s.base) (He.ga K s.C) (He.ga K s.C) (ccOf K s.at_) (cdOf K s.at_) fd := by
  unfold SupAt.ok at c
  simp only [Bool.and_eq_true] at c
  obtain ⟨⟨⟨⟨⟨⟨⟨⟨⟨c1, c2⟩, c3⟩, c4⟩, c5⟩, c6⟩, c7⟩, c8⟩, c9⟩, c10⟩ := c
  have e' := e
  unfold fnS at e'
  unfold codeB at c1
  cases q : K.lookup (He.fAd K s.at_) with
  | none => rw [q] at e'; cases e'
  | some o =>
    obtain ⟨oc, od, dt, osl⟩ := o
    rw [q] at e' c1
    cases dt with
    | func fd =>
      obtain ⟨n1, n2, n3, n4, n5, n6, n7, n8, n9, n10, n11, n12, n13, n14, n15⟩ := fd
      have e2 : (some (n1, n2, n3, n4, n5, n6, n7.map (·.1), n8, n9, n12, n15) : FnS) = some (s.d.name, s.d.qual, s.d.params, FuncBody.stmts s.d.body, s.d.scope, mainGlobals, [("__class__" : Str)], Value.none, Value.none, (none : Option Addr), builtinsNs) := e'
      simp only [Option.some.injEq, Prod.mk.injEq] at e2
      obtain ⟨z1, z2, z3, z4, z5, z6, z7, z8, z9, z10, z11⟩ := e2
      have hcode : n13 = .ref (cdOf K s.at_) := of_decide_eq_true c1
      have hcl : ∃ c, n7 = [(("__class__" : Str), c)] := by
        clear q c1 e'
        cases n7 with
        | nil => cases z7
        | cons p r =>
          cases r with
          | nil =>
            obtain ⟨x, c⟩ := p
            have ex : x = ("__class__" : Str) := by simpa using z7
            exact ⟨c, by rw [ex]⟩
          | cons _ _ => simp at z7
      obtain ⟨cc, hcl⟩ := hcl
      subst hcl
      have hcc : cc = ccOf K s.at_ := by unfold ccOf; rw [q]
      subst z1 z2 z3 z4 z5 z6 z8 z9 z10 z11
      subst hcc hcode
      refine ⟨_, n10, n11, n14, rfl, ⟨⟨oc, od, osl, n10, n11, n14, rfl, q⟩, c2, sc, h1, h2, ?_, ?_, Option.isSome_iff_exists.mp c5, of_decide_eq_true c6, h3, He.eqO_ok c7, of_decide_eq_true c8, c9, h4, He.eqO_ok c10, h5, h6⟩⟩
      · unfold fileB at c3
        cases q2 : K.lookup (cdOf K s.at_) with
        | none => rw [q2] at c3; cases c3
        | some o =>
          obtain ⟨c1', d1', dt', s1'⟩ := o
          rw [q2] at c3
          cases dt' with
          | fields vs =>
            have c3' : (match (vs[2]? : Option Value) with
              | some (Value.str file _) => (P.main.file : Str) == file
              | _ => false) = true := c3
            cases q3 : vs[2]? with
            | none => rw [q3] at c3'; cases c3'
            | some v =>
              rw [q3] at c3'
              cases v with
              | str file tf => exact ⟨_, _, vs, _, file, tf, rfl, q3, c3'⟩
              | _ => cases c3'
          | _ => cases c3
      · unfold cellB at c4
        cases q2 : K.lookup (ccOf K s.at_) with
        | none => rw [q2] at c4; cases c4
        | some o =>
          obtain ⟨c1', d1', dt', s1'⟩ := o
          rw [q2] at c4
          cases dt' with
          | cell v =>
            cases v with
            | none => cases c4
            | some v => cases v with
              | ref b =>
                have e3 : b = He.ga K s.C := of_decide_eq_true c4
                subst e3
                exact ⟨_, _, _, rfl⟩
              | _ => cases c4
          | _ => cases c4
    | _ => cases e'
/-- what the i-th def's function is -/
abbrev LawD.IsFn (W : LawD) (K : PySem.W.Frag) (i : Nat) (fd : FuncData) : Prop :=
  (∀ d : He.DefD, W.fn.lookup i = some d → FunD K d.name d.qual d.params d.body d.scope (d.dvs K) (d.kws K) (He.fAd K d.at_) fd) ∧
  (∀ s : SupAt, W.sup.lookup i = some s → NdefX.NScope [s.d.s, s.d.y, "__class__"] [s.d.s, s.d.y] ["__class__"] s.d.scope → (s.d.scope.names.lookup ("super" : Str) = some .globalImplicit ∧
    (∃ ar, (s.d.params.posonlyargs ++ s.d.params.args).head? = some ar ∧ ar.arg = s.d.s) ∧ (W.P.main.scope.names.lookup ("super" : Str)).isSome = false ∧ (s.d.m == ("__class__" : Str)) = false ∧ (s.d.ap.endLine == s.d.p3.line) = true ∧ (s.d.y == ("__debug__" : Str)) = false) →
    ∃ doc pm ctv, fd = (s.d.nf (ccOf K s.at_) (cdOf K s.at_)).fd doc pm ctv ∧ SupK W.P K s.d (He.fAd K s.at_) (He.fAd K s.base) (He.ga K s.C) (He.ga K s.C) (ccOf K s.at_) (cdOf K s.at_) fd)
theorem lookup_map {α β : Type} {f : α → β} : ∀ {l : List (Nat × α)} {i : Nat} {d : α}, l.lookup i = some d → (i, d) ∈ l
  | (j, e) :: l, i, d, h => by
    rw [List.lookup_cons] at h
    cases q : i == j with
    | true => rw [q] at h; cases h; rw [beq_iff_eq.mp q]; exact List.mem_cons_self
    | false => rw [q] at h; exact List.mem_cons_of_mem _ (lookup_map (f := f) h)
  | [], _, _, h => by cases h
theorem map_val {α β : Type} {f g : α → β} {l : List α} (h : l.map f = l.map g) {x : α} (m : x ∈ l) : f x = g x := by
  induction l with
  | nil => cases m
  | cons a l ih =>
    simp only [List.map_cons, List.cons.injEq] at h
    rcases List.mem_cons.mp m with rfl | m
    · exact h.1
    · exact ih h.2 m
theorem eT_ok {C : RC} {K : PySem.W.Frag} {a : Addr} (hK : C.K = K) (h : eT K a = true) : ∀ ι M H, Rep C ι M H (.ref a) (.tup []) := by
  unfold eT at h
  cases q : K.lookup a with
  | none => rw [q] at h; cases h
  | some o =>
    obtain ⟨oc, od, dt, osl⟩ := o
    rw [q] at h
    cases oc with
    | type c =>
      cases od with
      | none =>
        cases dt with
        | seq its n =>
          obtain ⟨h1, h2⟩ := He.ba (show (decide (c = "tuple") && its.toList.isEmpty) = true from h)
          have e : its.toList = [] := List.isEmpty_iff.mp h2
          exact fun ι M H => .tup (.inr ⟨_, its, n, by rw [hK]; exact q, rfl, congrArg Value.type (of_decide_eq_true h1), rfl, by
            have : its.size = 0 := by rw [← Array.length_toList, e]; rfl
            rw [this]; exact Nat.zero_le _, by rw [e]; exact .nil⟩) .nil
        | _ => cases h
      | some _ => cases dt <;> cases h
    | _ => cases od <;> cases dt <;> cases h
/-- defaults that are all () -/
theorem LawD.dfR {W : LawD} {K : PySem.W.Frag} {C : RC} {i : Nat} {d : He.DefD} (hK : C.K = K) (h : W.dfB K = true) (m : (i, d) ∈ W.fn) (ι : List Addr) (M : Addr → Prop) (H : Hp) : Reps C ι M H (d.dvs K) (List.replicate d.dfl.length (.tup [])) := by
  have q := List.all_eq_true.mp h _ m
  unfold He.DefD.dvs
  generalize d.dfl = l at q
  induction l with
  | nil => exact .nil
  | cons v r ih =>
    obtain ⟨q1, q2⟩ := He.ba (show ((match v.v K with
      | .ref a => eT K a
      | _ => false) && r.all fun v => match v.v K with
      | .ref a => eT K a
      | _ => false) = true from q)
    refine .cons ?_ (ih q2)
    cases e : v.v K with
    | ref a => rw [e] at q1; exact eT_ok hK q1 ι M H
    | _ => rw [e] at q1; cases q1
theorem Reps.drop {C : RC} {ι : List Addr} {M : Addr → Prop} {H : Hp} : ∀ {vs : List V} {ds : List D} (j : Nat), Reps C ι M H vs ds → Reps C ι M H (vs.drop j) (ds.drop j)
  | _, _, 0, r => r
  | _, _, _ + 1, .nil => .nil
  | _, _, j + 1, .cons _ r => Reps.drop j r
theorem LawD.dat {W : LawD} {K : PySem.W.Frag} {w : World} (c : W.obsK K = W.valK w) (dis : ∀ i, W.fn.lookup i = none ∨ W.sup.lookup i = none) : W.L.ok K = true ∧ W.dfB K = true ∧ W.L.tabs K = W.L.tabV w ∧ ∃ dat : Nat → FuncData, ∀ i, W.IsFn K i (dat i) := by
  have c0 : ((W.fn.all fun d => d.2.ok K) && (W.L.ok K && W.dfB K) && (W.sup.all fun s => s.2.ok K W.P)) = true := congrArg (·.1) c
  have cf : W.fn.map (fun d => He.fnW K d.2.at_) = W.fn.map (fun d => d.2.val) := congrArg (fun z : Al => z.2.1) c
  have cs : W.sup.map (fun s => fnS K s.2.at_) = W.sup.map (fun s => s.2.val) := congrArg (fun z : Al => z.2.2.1) c
  have ct : W.L.tabs K = W.L.tabV w := congrArg (fun z : Al => z.2.2.2) c
  obtain ⟨o1, o2', o3⟩ := and3 c0
  obtain ⟨o2, o4⟩ := He.ba o2'
  refine ⟨o2, o4, ct, ?_⟩
  have ex : ∀ i, ∃ fd, W.IsFn K i fd := fun i => by
    cases h : W.fn.lookup i with
    | some d =>
      have m := lookup_map (f := id) h
      obtain ⟨fd, q⟩ := He.DefD.funD (map_val cf m) (List.all_eq_true.mp o1 _ m)
      refine ⟨fd, fun d' h' => by rw [h] at h'; cases h'; exact q, fun s h' => ?_⟩
      rcases dis i with z | z
      · rw [h] at z; cases z
      · rw [h'] at z; cases z
    | none =>
      cases h2 : W.sup.lookup i with
      | none => exact ⟨default, And.intro (fun _ z => by rw [h] at z; cases z) (fun _ z => by rw [h2] at z; cases z)⟩
      | some s =>
        have m := lookup_map (f := id) h2
        have e1 := map_val cs m
        have e2 := List.all_eq_true.mp o3 _ m
        by_cases sc : NdefX.NScope [s.d.s, s.d.y, "__class__"] [s.d.s, s.d.y] ["__class__"] s.d.scope
        · by_cases hz : (s.d.scope.names.lookup ("super" : Str) = some .globalImplicit ∧
            (∃ ar, (s.d.params.posonlyargs ++ s.d.params.args).head? = some ar ∧ ar.arg = s.d.s) ∧ (W.P.main.scope.names.lookup ("super" : Str)).isSome = false ∧ (s.d.m == ("__class__" : Str)) = false ∧ (s.d.ap.endLine == s.d.p3.line) = true ∧ (s.d.y == ("__debug__" : Str)) = false)
          · obtain ⟨fd, doc, pm, ctv, q1, q2⟩ := supK_of e1 e2 sc hz.1 hz.2.1 hz.2.2.1 hz.2.2.2.1 hz.2.2.2.2.1 hz.2.2.2.2.2
            exact ⟨fd, And.intro (fun _ z => by rw [h] at z; cases z) (fun s' z _ _ => by rw [h2] at z; cases z; exact ⟨doc, pm, ctv, q1, q2⟩)⟩
          · exact ⟨default, And.intro (fun _ z => by rw [h] at z; cases z) (fun s' z _ y => by rw [h2] at z; cases z; exact absurd y hz)⟩
        · exact ⟨default, And.intro (fun _ z => by rw [h] at z; cases z) (fun s' z y _ => by rw [h2] at z; cases z; exact absurd y sc)⟩
  exact ⟨fun i => Classical.choose (ex i), fun i => Classical.choose_spec (ex i)⟩
theorem bind0 {K : PySem.W.Frag} : Binds K default [] [] := Binds.all fun us hl => match us, hl with | [], _ => by first | rfl | kernel_rfl
end MP

set_option maxRecDepth 100000
set_option maxHeartbeats 4000000
/-! MP29: loops; the draws that all laws share. -/
namespace MP
open PySem PySem.Spec PyProof.Rows L2
section
theorem loopF_inv {f : D → Ev → MH → O} : ∀ {ds : List D} {P : Nat → Ev → MH → Prop} {e : Ev} {h : MH}, (∀ i d e h, ds[i]? = some d → P i e h → ∃ e' h', f d e h = .nx e' h' ∧ P (i + 1) e' h') → P 0 e h → ∃ e' h', loopF f ds e h = .nx e' h' ∧ P ds.length e' h'
  | [], P, e, h, _, p => ⟨e, h, rfl, p⟩
  | d :: r, P, e, h, st, p => by
    obtain ⟨e1, h1, q1, p1⟩ := st 0 d e h rfl p
    obtain ⟨e2, h2, q2, p2⟩ := loopF_inv (ds := r) (P := fun i => P (i + 1)) (fun i d e h hd pi => st (i + 1) d e h (by simpa using hd) pi) p1
    refine ⟨e2, h2, ?_, p2⟩
    show (match f d e h with
      | .nx e h => loopF f r e h
      | .ct e h => loopF f r e h
      | .bk e h => .nx e h
      | o => o) = _
    rw [q1]
    exact q2
def ed (sc : D) (n : Int) (l : List D) (seed : Int) (s4 s5 s6 s7 s8 : Slot) : Ev := [.val sc, .val (.int n), .own (.lst l), .val (.int seed), s4, s5, s6, s7, s8]
/-- the three bodies -/
def b3 : Ss := (.cons (.set 7 (.bin .mod (.blt .int (.cons (.bin .add (.bin .add (.bin .add (.bin .mul (.var 6) (.cst (.int (48271)))) (.bin .mul (.var 5) (.cst (.int (69621))))) (.bin .mul (.var 4) (.cst (.int (7919))))) (.cst (.int (11)))) .nil)) (.cst (.int (2147483647))))) (.cons (.set 8 (.bin .mod (.blt .int (.cons (.bin .add (.bin .mul (.var 7) (.cst (.int (16807)))) (.bin .fdiv (.var 7) (.cst (.int (65536))))) .nil)) (.cst (.int (2147483629))))) (.cons (.app 2 (.bin .mod (.blt .int (.cons (.bin .fdiv (.var 8) (.cst (.int (7)))) .nil)) (.cst (.int (23328))))) .nil)))
def b60 : Ss := (.cons (.iff (.v (.cmp .gt (.var 6) (.cst (.int (0))))) (.cons (.app 2 (.bin .mod (.blt .int (.cons (.var 6) .nil)) (.cst (.int (23328))))) (.cons (.set 6 (.bin .fdiv (.var 6) (.cst (.int (23328))))) .nil)) .nil) .nil)
def bn : Ss := (.cons (.set 7 (.bin .mod (.blt .int (.cons (.bin .add (.bin .add (.bin .mul (.var 3) (.cst (.int (48271)))) (.bin .mul (.var 5) (.cst (.int (69621))))) (.cst (.int (5)))) .nil)) (.cst (.int (2147483647))))) (.cons (.set 8 (.bin .mod (.blt .int (.cons (.bin .add (.bin .mul (.var 7) (.cst (.int (16807)))) (.bin .fdiv (.var 7) (.cst (.int (65536))))) .nil)) (.cst (.int (2147483629))))) (.cons (.app 2 (.bin .mod (.blt .int (.cons (.bin .fdiv (.var 8) (.cst (.int (7)))) .nil)) (.cst (.int (23328))))) .nil)))
theorem mulR (i j : Int) (h : -18446744073709551616 < j ∧ j < 18446744073709551616) : binD .mul (.int i) (.int j) = some (.int (i * j)) := if_pos (.inr h)
variable {tb : Tb} {Φ : Nat → List D → MH → R D}
theorem x3 {sc : D} {n seed at_ k cell : Int} {l : List D} {s7 s8 : Slot} {h : MH} (hl : l.length < lim) :
    ∃ r : Int, ∃ s7' s8' : Slot, execs tb Φ b3 (ed sc n l seed (.val (.int at_)) (.val (.int k)) (.val (.int cell)) s7 s8) h = .nx (ed sc n (l ++ [.int (r % 23328)]) seed (.val (.int at_)) (.val (.int k)) (.val (.int cell)) s7' s8') h := by
  refine ⟨((((cell * 48271 + k * 69621 + at_ * 7919 + 11) % 2147483647) * 16807 + ((cell * 48271 + k * 69621 + at_ * 7919 + 11) % 2147483647) / 65536) % 2147483629) / 7, .val (.int ((cell * 48271 + k * 69621 + at_ * 7919 + 11) % 2147483647)), .val (.int ((((cell * 48271 + k * 69621 + at_ * 7919 + 11) % 2147483647) * 16807 + ((cell * 48271 + k * 69621 + at_ * 7919 + 11) % 2147483647) / 65536) % 2147483629)), ?_⟩
  simp [b3, ed, MP.execs, MP.exec, ev, evs, evOs, opd, vo, vos, view, R.bind, R.of, R.st, bltD, binD, hl]
theorem xn {sc : D} {n seed k : Int} {l : List D} {s4 s6 s7 s8 : Slot} {h : MH} (hl : l.length < lim) :
    ∃ r : Int, ∃ s7' s8' : Slot, execs tb Φ bn (ed sc n l seed s4 (.val (.int k)) s6 s7 s8) h = .nx (ed sc n (l ++ [.int (r % 23328)]) seed s4 (.val (.int k)) s6 s7' s8') h := by
  refine ⟨((((seed * 48271 + k * 69621 + 5) % 2147483647) * 16807 + ((seed * 48271 + k * 69621 + 5) % 2147483647) / 65536) % 2147483629) / 7, .val (.int ((seed * 48271 + k * 69621 + 5) % 2147483647)), .val (.int ((((seed * 48271 + k * 69621 + 5) % 2147483647) * 16807 + ((seed * 48271 + k * 69621 + 5) % 2147483647) / 65536) % 2147483629)), ?_⟩
  simp [bn, ed, MP.execs, MP.exec, ev, evs, evOs, opd, vo, vos, view, R.bind, R.of, R.st, bltD, binD, hl]
theorem x60 {sc : D} {n seed cell : Int} {l : List D} {s4 s5 s7 s8 : Slot} {h : MH} (hl : l.length < lim) :
    ∃ (l' : List D) (cell' : Int), execs tb Φ b60 (ed sc n l seed s4 s5 (.val (.int cell)) s7 s8) h = .nx (ed sc n l' seed s4 s5 (.val (.int cell')) s7 s8) h ∧ (l' = l ∨ ∃ r : Int, l' = l ++ [.int (r % 23328)]) := by
  by_cases hc : 0 < cell
  · refine ⟨l ++ [.int (cell % 23328)], cell / 23328, ?_, .inr ⟨cell, rfl⟩⟩
    simp [b60, ed, MP.execs, MP.exec, ev, evT, evs, evOs, opd, vo, vos, view, R.bind, R.of, R.st, bltD, binD, cmpD, truD, hl, hc]
  · refine ⟨l, cell, ?_, .inl rfl⟩
    simp [b60, ed, MP.execs, MP.exec, ev, evT, evs, evOs, opd, vo, vos, view, R.bind, R.of, R.st, bltD, binD, cmpD, truD, hl, hc]
def Dr (l : List D) : Prop := ∀ d ∈ l, ∃ i : Int, d = .int i ∧ 0 ≤ i ∧ i < 23328
theorem Dr.snoc {l : List D} (h : Dr l) (r : Int) : Dr (l ++ [.int (r % 23328)]) := fun d hd => by
  rcases List.mem_append.mp hd with z | z
  · exact h d z
  · have e : d = .int (r % 23328) := by simpa using z
    exact ⟨_, e, Int.emod_nonneg _ (by decide), Int.emod_lt_of_pos _ (by decide)⟩
def fF (tb : Tb) (Φ : Nat → List D → MH → R D) (i : Nat) (b : Ss) : D → Ev → MH → O := fun d e h => (match bindP (.nm i) d e with
  | some e => MP.execs tb Φ b e h
  | none => .no)
theorem rng_get {lo hi : Int} {i : Nat} {d : D} (h : (rngL lo hi)[i]? = some d) : d = .int (lo + i) := (rngL_get h).2
theorem l3 {sc : D} {n seed at_ cell : Int} {l : List D} {s5 s7 s8 : Slot} {h : MH} (hl : l.length + 3 < lim) (hd : Dr l) :
    ∃ l' s5' s7' s8', loopF (fF tb Φ 5 b3) (rngL 0 3) (ed sc n l seed (.val (.int at_)) s5 (.val (.int cell)) s7 s8) h = .nx (ed sc n l' seed (.val (.int at_)) s5' (.val (.int cell)) s7' s8') h ∧ Dr l' ∧ l'.length ≤ l.length + 3 := by
  obtain ⟨e', h', q, l', s5', s7', s8', rfl, rfl, h1, h2⟩ := loopF_inv (f := fF tb Φ 5 b3) (ds := rngL 0 3) (h := h) (P := fun i e h' => ∃ l' s5 s7 s8, e = ed sc n l' seed (.val (.int at_)) s5 (.val (.int cell)) s7 s8 ∧ h' = h ∧ Dr l' ∧ l'.length ≤ l.length + i) (e := ed sc n l seed (.val (.int at_)) s5 (.val (.int cell)) s7 s8) (fun i d e h' hg ⟨l', s5, s7, s8, he, hh, h1, h2⟩ => by
    subst he hh
    have hi : i < 3 := by have := (rngL_get hg).1; simpa using this
    obtain ⟨r, s7', s8', q⟩ := x3 (tb := tb) (Φ := Φ) (sc := sc) (n := n) (seed := seed) (at_ := at_) (k := 0 + (i : Int)) (cell := cell) (l := l') (s7 := s7) (s8 := s8) (h := h') (by omega)
    rw [rng_get hg]
    exact ⟨_, _, q, _, _, _, _, rfl, rfl, h1.snoc r, by rw [List.length_append]; show l'.length + 1 ≤ _; omega⟩) ⟨l, s5, s7, s8, rfl, rfl, hd, by omega⟩
  exact ⟨l', s5', s7', s8', q, h1, h2⟩
theorem l60 {sc : D} {n seed cell : Int} {l : List D} {s4 s5 s7 s8 : Slot} {h : MH} (hl : l.length + 60 < lim) (hd : Dr l) :
    ∃ l' s5' cell', loopF (fF tb Φ 5 b60) (rngL 0 60) (ed sc n l seed s4 s5 (.val (.int cell)) s7 s8) h = .nx (ed sc n l' seed s4 s5' (.val (.int cell')) s7 s8) h ∧ Dr l' ∧ l'.length ≤ l.length + 60 := by
  obtain ⟨e', h', q, l', s5', cell', rfl, rfl, h1, h2⟩ := loopF_inv (f := fF tb Φ 5 b60) (ds := rngL 0 60) (h := h) (P := fun i e h' => ∃ l' s5 cell, e = ed sc n l' seed s4 s5 (.val (.int cell)) s7 s8 ∧ h' = h ∧ Dr l' ∧ l'.length ≤ l.length + i) (e := ed sc n l seed s4 s5 (.val (.int cell)) s7 s8) (fun i d e h' hg ⟨l', s5, cell, he, hh, h1, h2⟩ => by
    subst he hh
    have hi : i < 60 := by have := (rngL_get hg).1; simpa using this
    obtain ⟨l2, cell', q, h3⟩ := x60 (tb := tb) (Φ := Φ) (sc := sc) (n := n) (seed := seed) (cell := cell) (l := l') (s4 := s4) (s5 := .val d) (s7 := s7) (s8 := s8) (h := h') (by omega)
    refine ⟨_, _, q, _, _, _, rfl, rfl, ?_, ?_⟩
    · rcases h3 with rfl | ⟨r, rfl⟩
      · exact h1
      · exact h1.snoc r
    · rcases h3 with rfl | ⟨r, rfl⟩
      · omega
      · rw [List.length_append]; show l'.length + 1 ≤ _; omega) ⟨l, s5, cell, rfl, rfl, hd, by omega⟩
  exact ⟨l', s5', cell', q, h1, h2⟩
theorem ln {sc : D} {n seed : Int} {l : List D} {s4 s5 s6 s7 s8 : Slot} {h : MH} (hl : l.length + n.toNat < lim) (hd : Dr l) :
    ∃ l' s5' s7' s8', loopF (fF tb Φ 5 bn) (rngL 0 n) (ed sc n l seed s4 s5 s6 s7 s8) h = .nx (ed sc n l' seed s4 s5' s6 s7' s8') h ∧ Dr l' ∧ l'.length = l.length + n.toNat := by
  obtain ⟨e', h', q, l', s5', s7', s8', rfl, rfl, h1, h2⟩ := loopF_inv (f := fF tb Φ 5 bn) (ds := rngL 0 n) (h := h) (P := fun i e h' => ∃ l' s5 s7 s8, e = ed sc n l' seed s4 s5 s6 s7 s8 ∧ h' = h ∧ Dr l' ∧ l'.length = l.length + i) (e := ed sc n l seed s4 s5 s6 s7 s8) (fun i d e h' hg ⟨l', s5, s7, s8, he, hh, h1, h2⟩ => by
    subst he hh
    have hi : i < n.toNat := by have := (rngL_get hg).1; simpa using this
    obtain ⟨r, s7', s8', q⟩ := xn (tb := tb) (Φ := Φ) (sc := sc) (n := n) (seed := seed) (k := 0 + (i : Int)) (l := l') (s4 := s4) (s6 := s6) (s7 := s7) (s8 := s8) (h := h') (by omega)
    rw [rng_get hg]
    exact ⟨_, _, q, _, _, _, _, rfl, rfl, h1.snoc r, by rw [List.length_append]; show l'.length + 1 = _; omega⟩) ⟨l, s5, s7, s8, rfl, rfl, hd, by omega⟩
  rw [rng_len, Int.sub_zero] at h2
  exact ⟨l', s5', s7', s8', q, h1, h2⟩
end
section
variable {tb : Tb} {Φ : Nat → List D → MH → R D}
theorem execs_nx {s : MP.S} {l : Ss} {e e' : Ev} {h h' : MH} (q : MP.exec tb Φ s e h = .nx e' h') : MP.execs tb Φ (.cons s l) e h = MP.execs tb Φ l e' h' := by
  show (match MP.exec tb Φ s e h with
    | .nx e h => MP.execs tb Φ l e h
    | o => o) = _
  rw [q]
theorem execs_one {s : MP.S} {e e' : Ev} {h h' : MH} (q : MP.exec tb Φ s e h = .nx e' h') : MP.execs tb Φ (.cons s .nil) e h = .nx e' h' := (execs_nx q).trans rfl
def sA : MP.S := .set 6 (.blt .abs (.cons (.idx (.var 0) (.var 4)) .nil))
def sB : MP.S := .set 3 (.bin .mod (.blt .int (.cons (.bin .add (.bin .mul (.var 3) (.cst (.int (31)))) (.bin .mod (.blt .int (.cons (.var 6) .nil)) (.cst (.int (1000003))))) .nil)) (.cst (.int (2147483647))))
def sC : MP.S := .iff (.v (.cmp .ge (.var 6) (.bin .pow (.cst (.int (10))) (.cst (.int (18)))))) (.cons (.forr (.nm 5) (.rng (.cst (.int (60)))) b60) .nil) (.cons (.forr (.nm 5) (.rng (.cst (.int (3)))) b3) .nil)
def bat : Ss := .cons sA (.cons sB (.cons sC .nil))
theorem xat {ns : List D} {n seed at_ x : Int} {l : List D} {s5 s6 s7 s8 : Slot} {h : MH} (ha : L2.atI ns at_ = some (.int x)) (hl : l.length + 60 < lim) (hd : Dr l) :
    ∃ l' seed' s5' s6' s7' s8', MP.execs tb Φ bat (ed (.scr ns) n l seed (.val (.int at_)) s5 s6 s7 s8) h = .nx (ed (.scr ns) n l' seed' (.val (.int at_)) s5' s6' s7' s8') h ∧ Dr l' ∧ l'.length ≤ l.length + 60 := by
  obtain ⟨cell, hA⟩ : ∃ cell : Int, MP.exec tb Φ sA (ed (.scr ns) n l seed (.val (.int at_)) s5 s6 s7 s8) h = .nx (ed (.scr ns) n l seed (.val (.int at_)) s5 (.val (.int cell)) s7 s8) h := by
    refine ⟨if x < 0 then -x else x, ?_⟩
    simp [sA, ed, MP.exec, ev, evs, evOs, opd, vo, vos, view, R.bind, R.of, R.st, bltD, binD, idxD, ha]
  obtain ⟨seed', hB⟩ : ∃ seed' : Int, MP.exec tb Φ sB (ed (.scr ns) n l seed (.val (.int at_)) s5 (.val (.int cell)) s7 s8) h = .nx (ed (.scr ns) n l seed' (.val (.int at_)) s5 (.val (.int cell)) s7 s8) h := by
    refine ⟨(seed * 31 + cell % 1000003) % 2147483647, ?_⟩
    simp [sB, ed, MP.exec, ev, evs, evOs, opd, vo, vos, view, R.bind, R.of, R.st, bltD, binD]
  have hT : evT tb Φ (.v (.cmp .ge (.var 6) (.bin .pow (.cst (.int (10))) (.cst (.int (18)))))) (ed (.scr ns) n l seed' (.val (.int at_)) s5 (.val (.int cell)) s7 s8) h = .ok (decide (1000000000000000000 ≤ cell)) h := by
    simp [ed, evT, ev, evs, evOs, opd, vo, vos, view, R.bind, R.of, R.st, bltD, binD, cmpD, truD]
  have hC : MP.exec tb Φ sC (ed (.scr ns) n l seed' (.val (.int at_)) s5 (.val (.int cell)) s7 s8) h = if decide (1000000000000000000 ≤ cell) = true then
      MP.execs tb Φ (.cons (.forr (.nm 5) (.rng (.cst (.int (60)))) b60) .nil) (ed (.scr ns) n l seed' (.val (.int at_)) s5 (.val (.int cell)) s7 s8) h else
      MP.execs tb Φ (.cons (.forr (.nm 5) (.rng (.cst (.int (3)))) b3) .nil) (ed (.scr ns) n l seed' (.val (.int at_)) s5 (.val (.int cell)) s7 s8) h := by
    simp only [sC, MP.exec, hT, R.st]
  by_cases hc : decide (1000000000000000000 ≤ cell) = true
  · obtain ⟨l', s5', cell', q, h1, h2⟩ := l60 (tb := tb) (Φ := Φ) (sc := .scr ns) (n := n) (seed := seed') (cell := cell) (l := l) (s4 := .val (.int at_)) (s5 := s5) (s7 := s7) (s8 := s8) (h := h) hl hd
    refine ⟨l', seed', s5', .val (.int cell'), s7, s8, ?_, h1, h2⟩
    show MP.execs tb Φ (.cons sA (.cons sB (.cons sC .nil))) _ h = _
    rw [execs_nx hA, execs_nx hB]
    refine execs_one ?_
    rw [hC, if_pos hc]
    exact execs_one (show MP.exec tb Φ (.forr (.nm 5) (.rng (.cst (.int (60)))) b60) _ h = _ from q)
  · obtain ⟨l', s5', s7', s8', q, h1, h2⟩ := l3 (tb := tb) (Φ := Φ) (sc := .scr ns) (n := n) (seed := seed') (at_ := at_) (cell := cell) (l := l) (s5 := s5) (s7 := s7) (s8 := s8) (h := h) (by omega) hd
    refine ⟨l', seed', s5', .val (.int cell), s7', s8', ?_, h1, by omega⟩
    show MP.execs tb Φ (.cons sA (.cons sB (.cons sC .nil))) _ h = _
    rw [execs_nx hA, execs_nx hB]
    refine execs_one ?_
    rw [hC, if_neg hc]
    exact execs_one (show MP.exec tb Φ (.forr (.nm 5) (.rng (.cst (.int (3)))) b3) _ h = _ from q)
theorem lat {ns : List Int} {n seed : Int} {l : List D} {s4 s5 s6 s7 s8 : Slot} {h : MH} (hl : l.length + 60 * ns.length < lim) (hd : Dr l) :
    ∃ l' seed' s4' s5' s6' s7' s8', loopF (fF tb Φ 4 bat) (rngL 0 ns.length) (ed (.scr (ns.map D.int)) n l seed s4 s5 s6 s7 s8) h = .nx (ed (.scr (ns.map D.int)) n l' seed' s4' s5' s6' s7' s8') h ∧ Dr l' ∧ l'.length ≤ l.length + 60 * ns.length := by
  obtain ⟨e', h', q, l', seed', s4', s5', s6', s7', s8', rfl, rfl, h1, h2⟩ := loopF_inv (f := fF tb Φ 4 bat) (ds := rngL 0 ns.length) (h := h) (P := fun i e h' => ∃ l' seed s4 s5 s6 s7 s8, e = ed (.scr (ns.map D.int)) n l' seed s4 s5 s6 s7 s8 ∧ h' = h ∧ Dr l' ∧ l'.length ≤ l.length + 60 * i) (e := ed (.scr (ns.map D.int)) n l seed s4 s5 s6 s7 s8) (fun i d e h' hg ⟨l', seed, s4, s5, s6, s7, s8, he, hh, h1, h2⟩ => by
    subst he hh
    have hi : i < ns.length := by have := (rngL_get hg).1; simpa using this
    have ha : L2.atI (ns.map D.int) (0 + (i : Int)) = some (.int ns[i]) := by
      unfold L2.atI L2.ixN
      rw [List.length_map, if_pos (by omega), if_pos (by omega)]
      simp [List.getElem?_eq_getElem hi]
    obtain ⟨l2, seed2, t5, t6, t7, t8, q, h3, h4⟩ := xat (tb := tb) (Φ := Φ) (ns := ns.map D.int) (n := n) (seed := seed) (at_ := 0 + (i : Int)) (x := ns[i]) (l := l') (s5 := s5) (s6 := s6) (s7 := s7) (s8 := s8) (h := h') ha (by omega) h1
    rw [rng_get hg]
    exact ⟨_, _, q, _, _, _, _, _, _, _, rfl, rfl, h3, by omega⟩) ⟨l, seed, s4, s5, s6, s7, s8, rfl, rfl, hd, by omega⟩
  rw [rng_len] at h2
  exact ⟨l', seed', s4', s5', s6', s7', s8', q, h1, by omega⟩
theorem ex_for {i : Nat} {a : M} {b : Ss} {j : Int} {e : Ev} {h : MH} (hr : rngOk j = true) (hv : ev tb Φ a e h = .ok (.int j) h) : MP.exec tb Φ (.forr (.nm i) (.rng a) b) e h = loopF (fF tb Φ i b) (rngL 0 j) e h := by
  simp only [MP.exec, ownIt, evI, hv, R.bind, R.st, hr, if_true]
  rfl
theorem ex_ret {a : M} {l : Ss} {d : D} {e : Ev} {h h' : MH} (hv : ev tb Φ a e h = .ok d h') : MP.execs tb Φ (.cons (.ret a) l) e h = .rt d h' := by
  simp only [MP.execs, MP.exec, hv, R.st]
theorem rng_ok {j : Int} (h0 : 0 ≤ j) (h1 : j < 4611686018427387904) : rngOk j = true := decide_eq_true ⟨by omega, h1⟩
/-- the shared draws: n whole numbers below 23328 -/
def fdraws : Fd := ⟨2, 9, .cons (.setN 2 (.lst .nil)) (.cons (.set 3 (.bin .add (.cst (.int (17))) (.blt .len (.cons (.var 0) .nil)))) (.cons (.forr (.nm 4) (.rng (.blt .len (.cons (.var 0) .nil))) bat) (.cons (.forr (.nm 5) (.rng (.var 1)) bn) (.cons (.ret (.slc (.var 2) .no (.so (.var 1)))) .nil)))), none, false⟩

end
section
variable {tb : Tb} {Φ : Nat → List D → MH → R D}
theorem dr1 {sc : D} {n : Int} {h : MH} : MP.exec tb Φ (.setN 2 (.lst .nil)) [.val sc, .val (.int n), .no, .no, .no, .no, .no, .no, .no] h = .nx [.val sc, .val (.int n), .own (.lst []), .no, .no, .no, .no, .no, .no] h := by
  simp [MP.exec, ev, evs, R.bind, R.st, freshD, lim]
theorem dr2 {ns : List D} {n : Int} {h : MH} : MP.exec tb Φ (.set 3 (.bin .add (.cst (.int (17))) (.blt .len (.cons (.var 0) .nil)))) [.val (.scr ns), .val (.int n), .own (.lst []), .no, .no, .no, .no, .no, .no] h = .nx (ed (.scr ns) n [] (17 + (ns.length : Int)) .no .no .no .no .no) h := by
  simp [ed, MP.exec, ev, evs, evOs, opd, vo, vos, view, R.bind, R.of, R.st, bltD, binD]
theorem dr3 {ns : List D} {e : Ev} {h : MH} : ev tb Φ (.blt .len (.cons (.var 0) .nil)) (.val (.scr ns) :: e) h = .ok (.int ns.length) h := by
  simp [ev, evs, evOs, opd, vo, vos, view, R.bind, R.of, bltD]
theorem dr4 {sc : D} {n seed : Int} {l : List D} {s4 s5 s6 s7 s8 : Slot} {h : MH} : ev tb Φ (.slc (.var 2) .no (.so (.var 1))) (ed sc n l seed s4 s5 s6 s7 s8) h = .ok (.lst (cutL l none (some n))) h := by
  simp [ed, ev, evo, opd, vo, vos, view, R.bind, R.of, slcD]
theorem callN_of {F : Nat → Option Fd} {f k : Nat} {fd : Fd} {ds : List D} {h : MH} {r : R D} (hF : F f = some fd) (hn : ds.length = fd.np) (hs : fd.sup = none) (e : runB tb (callN tb F k) fd ds h = r) : callN tb F (k + 1) f ds h = r := by
  unfold callN
  rw [hF]
  simp only [hn, hs, if_true]
  exact e
theorem dr5 {sc : D} {n seed : Int} {l : List D} {s4 s5 s6 s7 s8 : Slot} {h : MH} : ev tb Φ (.var 1) (ed sc n l seed s4 s5 s6 s7 s8) h = .ok (.int n) h := by simp [ed, ev]
def bd4 : Ss := .cons (.forr (.nm 5) (.rng (.var 1)) bn) (.cons (.ret (.slc (.var 2) .no (.so (.var 1)))) .nil)
def bd3 : Ss := .cons (.forr (.nm 4) (.rng (.blt .len (.cons (.var 0) .nil))) bat) bd4
def bd2 : Ss := .cons (.set 3 (.bin .add (.cst (.int (17))) (.blt .len (.cons (.var 0) .nil)))) bd3
def bd1 : Ss := .cons (.setN 2 (.lst .nil)) bd2
section
variable {F : Nat → Option Fd} {f k : Nat} {ns : List D} {n : Int} {h : MH} {l1 l2 : List D} {seed1 : Int} {a4 a5 a6 a7 a8 b5 b7 b8 : Slot}
theorem s4 (r2 : rngOk n = true) (q2 : loopF (fF tb Φ 5 bn) (rngL 0 n) (ed (.scr ns) n l1 seed1 a4 a5 a6 a7 a8) h = .nx (ed (.scr ns) n l2 seed1 a4 b5 a6 b7 b8) h) : MP.execs tb Φ bd4 (ed (.scr ns) n l1 seed1 a4 a5 a6 a7 a8) h = .rt (.lst (cutL l2 none (some n))) h := (execs_nx ((ex_for r2 dr5).trans q2)).trans (ex_ret dr4)
theorem s3 (r1 : rngOk (ns.length : Int) = true) (q1 : loopF (fF tb Φ 4 bat) (rngL 0 ns.length) (ed (.scr ns) n [] (17 + (ns.length : Int)) .no .no .no .no .no) h = .nx (ed (.scr ns) n l1 seed1 a4 a5 a6 a7 a8) h) : MP.execs tb Φ bd3 (ed (.scr ns) n [] (17 + (ns.length : Int)) .no .no .no .no .no) h = MP.execs tb Φ bd4 (ed (.scr ns) n l1 seed1 a4 a5 a6 a7 a8) h := execs_nx ((ex_for r1 dr3).trans q1)
theorem s2 : MP.execs tb Φ bd2 [.val (.scr ns), .val (.int n), .own (.lst []), .no, .no, .no, .no, .no, .no] h = MP.execs tb Φ bd3 (ed (.scr ns) n [] (17 + (ns.length : Int)) .no .no .no .no .no) h := execs_nx dr2
theorem s1 : MP.execs tb Φ bd1 [.val (.scr ns), .val (.int n), .no, .no, .no, .no, .no, .no, .no] h = MP.execs tb Φ bd2 [.val (.scr ns), .val (.int n), .own (.lst []), .no, .no, .no, .no, .no, .no] h := execs_nx dr1
theorem run_of {fd : Fd} {ds : List D} {d : D} {b : Ss} {e : Ev} {h' : MH} (h1 : fd.body = b) (h2 : startE fd.ns ds = e) (hf : fd.fr = false) (h3 : MP.execs tb Φ b e h = .rt d h') : runB tb Φ fd ds h = .ok d h' := by
  unfold runB
  rw [h1, h2, h3, hf]
  rfl
theorem st_dr : startE fdraws.ns [D.scr ns, .int n] = [.val (.scr ns), .val (.int n), .no, .no, .no, .no, .no, .no, .no] := rfl
theorem bd_dr : fdraws.body = bd1 := rfl
theorem np_dr : [D.scr ns, D.int n].length = fdraws.np := rfl
theorem su_dr : fdraws.sup = none := rfl
theorem draws_run (hF : F f = some fdraws) (r1 : rngOk (ns.length : Int) = true) (r2 : rngOk n = true)
    (q1 : loopF (fF tb (callN tb F k) 4 bat) (rngL 0 ns.length) (ed (.scr ns) n [] (17 + (ns.length : Int)) .no .no .no .no .no) h = .nx (ed (.scr ns) n l1 seed1 a4 a5 a6 a7 a8) h)
    (q2 : loopF (fF tb (callN tb F k) 5 bn) (rngL 0 n) (ed (.scr ns) n l1 seed1 a4 a5 a6 a7 a8) h = .nx (ed (.scr ns) n l2 seed1 a4 b5 a6 b7 b8) h) : callN tb F (k + 1) f [.scr ns, .int n] h = .ok (.lst (cutL l2 none (some n))) h :=
  callN_of hF np_dr su_dr (run_of bd_dr st_dr rfl (s1.trans (s2.trans ((s3 r1 q1).trans (s4 r2 q2)))))
end
theorem draws_ok {F : Nat → Option Fd} {f k : Nat} (hF : F f = some fdraws) (ns : List Int) (n : Nat) (h : MH) (h1 : ns.length ≤ 63) (h2 : n ≤ 100000) :
    ∃ l : List D, callN tb F (k + 1) f [.scr (ns.map D.int), .int n] h = .ok (.lst l) h ∧ Dr l ∧ l.length = n := by
  have hlim : lim = 10000000 := rfl
  obtain ⟨l1, seed1, a4, a5, a6, a7, a8, q1, d1, z1⟩ := lat (tb := tb) (Φ := callN tb F k) (ns := ns) (n := (n : Int)) (seed := 17 + (ns.length : Int)) (l := []) (s4 := .no) (s5 := .no) (s6 := .no) (s7 := .no) (s8 := .no) (h := h) (by simp; omega) (fun d hd => by cases hd)
  simp only [List.length_nil, Nat.zero_add] at z1
  obtain ⟨l2, b5, b7, b8, q2, d2, z2⟩ := ln (tb := tb) (Φ := callN tb F k) (sc := .scr (ns.map D.int)) (n := (n : Int)) (seed := seed1) (l := l1) (s4 := a4) (s5 := a5) (s6 := a6) (s7 := a7) (s8 := a8) (h := h) (by rw [Int.toNat_natCast]; omega) d1
  rw [Int.toNat_natCast] at z2
  refine ⟨cutL l2 none (some (n : Int)), ?_, ?_, ?_⟩
  · exact draws_run hF (by rw [List.length_map]; exact rng_ok (by omega) (by omega)) (rng_ok (by omega) (by omega)) (by rw [List.length_map]; exact q1) q2
  · intro d hd
    unfold cutL at hd
    exact d2 d (List.drop_subset _ _ (List.take_subset _ _ hd))
  · unfold cutL
    rw [HT.sIx_none, HT.sIx_nat]
    rw [List.length_take, List.length_drop]
    omega
end
end MP

set_option maxRecDepth 100000
set_option maxHeartbeats 1000000
/-! MP30: a law's end; steps by hand. -/
namespace MP
open PySem PySem.Spec PyProof.Rows L2

theorem law_end {P : Program} {w : World} {K : PySem.W.Frag} {h : Heap} {mg : Str → Option Value} {fa : Addr} {fdat : Nat → FuncData} {L : LT} {F : Nat → Option Fd} {N k : Nat} (KX : K.In h) (G : h.Ns mainGlobals mg) (hmg : mg ("law" : Str) = some (.ref fa))
    (hb : ∀ (s : Shared) (v : Value), BindsTo s (fdat 0) ⟨[v], []⟩ [("_law_script", v)]) (T0 : ∀ base : Heap, Txt (L.tb N) (L.tx K fdat) F P w K mg base) (hfn : L.fn[0]? = some (("law" : Str), (none : Option Str))) (hps : L.ps.getD 0 [] = [("_law_script" : Str)]) (hfr : L.frs.contains 0 = false)
    (ok : ∀ ns : List Int, ns.length ≤ 63 → ∃ h', callN (L.tb N) F k 0 [.scr (ns.map D.int)] [] = .ok (.bl true) h') :
    ∃ (K : PySem.W.Frag) (fd : FuncData) (sp : Sp), K.In h ∧ (∀ (s : Shared) (u : Value), BindsTo s fd ⟨[u], []⟩ [("_law_script", u)]) ∧
      (∀ (H : Hp) (a : Addr) (ns : List Int), ns.length ≤ 63 → Only H → SqL K H a (ns.map V.int) → sp [.ref a] H (fun v _ => v = .bl true) fun _ _ _ => False) ∧
      ∀ base : Heap, K.In base → base.Ns mainGlobals mg → FnOk P w K mg base cx0 (2 * k) fa fd ["_law_script"] sp := by
  have hfa : L.fa K 0 = fa := by
    have q2 : mg ("law" : Str) = some (.ref (L.fa K 0)) := ((T0 h).tx.fn 0 "law" (by
      show (match L.fn[0]? with
        | some (n, none) => some n
        | _ => none) = some ("law" : Str)
      rw [hfn])).1
    rw [hmg] at q2
    cases q2
    rfl
  refine ⟨K, fdat 0, spF ⟨P, w, K, L.ca K⟩ 1 false (callN (L.tb N) F k 0), KX, hb, fun H a ns hl _ hS => ?_, fun base hk hg => ?_⟩
  · obtain ⟨h', q⟩ := ok ns hl
    refine ⟨rfl, [], fun _ => False, [.scr (ns.map D.int)], [], .bl true, h', ⟨fun _ z => z.elim, (fun _ z => nomatch z), rfl, List.nodup_nil, (fun _ _ z => nomatch z)⟩, .cons (.scr (vs := ns.map V.int) ?_ ?_) .nil, q, fun ι' H' v _ rv _ => (by cases rv rfl; rfl)⟩
    · exact hS.elim (fun z => .inl ⟨fun z => z, z⟩) .inr
    · clear hl hS q
      induction ns with
      | nil => exact .nil
      | cons n r ih => exact .cons (.int n) ih
  · have q := fn_ok (T0 base) k 0
    have e : (L.tx K fdat).fa 0 = fa := hfa
    have e2 : (L.tx K fdat).fps 0 = [("_law_script" : Str)] := hps
    have e3 : (L.tx K fdat).frs 0 = false := hfr
    rw [e, e2, e3] at q
    exact q
end MP
namespace MP
open PySem L2
section
variable {tb : Tb} {Φ : Nat → List D → MH → R D} {F : Nat → Option Fd} {e e' : Ev} {h h' : MH}
theorem at_mem {S : List D} (h : 0 < S.length) (b : Int) : ∃ f, L2.atI S (b % (S.length : Int)) = some f ∧ f ∈ S := by
  have h0 : 0 ≤ b % (S.length : Int) := Int.emod_nonneg _ (by omega)
  have h1 : b % (S.length : Int) < S.length := Int.emod_lt_of_pos _ (by omega)
  have hlt : (b % (S.length : Int)).toNat < S.length := by omega
  refine ⟨S[(b % (S.length : Int)).toNat], ?_, List.getElem_mem hlt⟩
  unfold L2.atI L2.ixN
  rw [if_pos h0, if_pos h1]
  exact List.getElem?_eq_getElem hlt
theorem atI_nat {l : List D} {i : Nat} (hi : i < l.length) : L2.atI l (i : Int) = l[i]? := by
  unfold L2.atI L2.ixN
  rw [if_pos (by omega), if_pos (by omega)]
  simp
theorem Dr.get {l : List D} (h : Dr l) {i : Nat} (hi : i < l.length) : ∃ a : Int, l[i]? = some (.int a) ∧ 0 ≤ a ∧ a < 23328 := by
  obtain ⟨a, e, b⟩ := h l[i] (List.getElem_mem hi)
  exact ⟨a, by rw [List.getElem?_eq_getElem hi, e], b⟩
theorem loopF_cons {f : D → Ev → MH → O} {d : D} {r : List D} (q : f d e h = .nx e' h') : loopF f (d :: r) e h = loopF f r e' h' := by
  show (match f d e h with
    | .nx e h => loopF f r e h
    | .ct e h => loopF f r e h
    | .bk e h => .nx e h
    | o => o) = _
  rw [q]
theorem loop_all {f : D → Ev → MH → O} : ∀ {ds : List D}, (∀ d ∈ ds, f d e h = .nx e h) → loopF f ds e h = .nx e h
  | [], _ => rfl
  | d :: r, H => (loopF_cons (H d List.mem_cons_self)).trans (loop_all fun d m => H d (List.mem_cons_of_mem _ m))
theorem ex_forv {i : Nat} {m : M} {b : Ss} {x : Od} {ds : List D} (ho : ownIt e (.val m) = false) (hv : opd m (ev tb Φ m e h) e h = .ok x h) (hi : (vi e x).bind itemsD = some ds) : MP.exec tb Φ (.forr (.nm i) (.val m) b) e h = loopF (fF tb Φ i b) ds e h := by
  simp only [MP.exec, ho, evI, hv, R.bind, R.of, hi, R.st]
  rfl
theorem callN_ofF {f k : Nat} {fd : Fd} {ds : List D} {r : R D} (hF : F f = some fd) (hn : ds.length = fd.np) (hs : fd.sup = none) (q : runB tb (callN tb F k) fd ds h = r) : callN tb F (k + 1) f ds h = r := callN_of hF hn hs q
theorem run_ofF {fd : Fd} {ds : List D} {d : D} {b : Ss} (h1 : fd.body = b) (h2 : startE fd.ns ds = e) (hf : fd.fr = true) (h3 : MP.execs tb Φ b e h = .rtF d h') : runB tb Φ fd ds h = .ok d h' := by
  unfold runB
  rw [h1, h2, h3, hf]
  rfl
theorem run_ofN {fd : Fd} {ds : List D} {b : Ss} (h1 : fd.body = b) (h2 : startE fd.ns ds = e) (hf : fd.fr = false) (h3 : ∃ e', MP.execs tb Φ b e h = .nx e' h') : runB tb Φ fd ds h = .ok .non h' := by
  obtain ⟨e', h3⟩ := h3
  unfold runB
  rw [h1, h2, h3, hf]
  rfl
end
end MP
namespace MP
open PySem L2
section
variable {tb : Tb} {Φ : Nat → List D → MH → R D} {e e' : Ev} {h h' : MH}
/-- the test of an `if not ..: return False` -/
def okT (r : R D) : Bool := match r with
  | .ok (.bl true) [] => true
  | _ => false
theorem okT_ok {r : R D} (q : okT r = true) : r = .ok (.bl true) [] := by
  cases r with
  | ok d h => cases d <;> first | (cases q; done) | (rename_i b; cases b <;> cases h <;> first | (cases q; done) | rfl)
  | _ => cases q
theorem ex_iff {c : T} {a b : Ss} {t : Bool} (hc : evT tb Φ c e h = .ok t h') : MP.exec tb Φ (.iff c a b) e h = if t then MP.execs tb Φ a e h' else MP.execs tb Φ b e h' := by
  simp only [MP.exec, hc, R.st]
/-- a guard that lets pass -/
theorem ex_guard {m : M} {a : Ss} (hm : opd m (ev tb Φ m e h) e h = .ok (.d (.bl true)) h) : MP.exec tb Φ (.iff (.not (.v m)) a .nil) e h = .nx e h := by
  have hc : evT tb Φ (.not (.v m)) e h = .ok false h := by simp [evT, hm, R.bind, R.of, vo, view, truD]
  rw [ex_iff hc]
  rfl
theorem opd_call {f : Nat} {l : Ms} {d : D} (q : ev tb Φ (.call f l) e h = .ok d h') : opd (.call f l) (ev tb Φ (.call f l) e h) e h = .ok (.d d) h' := by
  rw [q]; rfl
theorem ex_for2 {i : Nat} {b : Ss} {x y : Int} (hr : (rngOk x && rngOk y) = true) : MP.exec tb Φ (.forr (.nm i) (.rng2 (.cst (.int x)) (.cst (.int y))) b) e h = loopF (fF tb Φ i b) (rngL x y) e h := by
  simp only [MP.exec, ownIt, evI, ev, R.bind, R.st, hr, if_true]
  rfl
theorem ex_forl {i : Nat} {l : Ms} {b : Ss} {ds : List D} (q : ev tb Φ (.lst l) e h = .ok (.lst ds) h) : MP.exec tb Φ (.forr (.nm i) (.val (.lst l)) b) e h = loopF (fF tb Φ i b) ds e h :=
  ex_forv (x := .d (.lst ds)) rfl (by rw [q]; rfl) rfl
theorem ex_forx {i j : Nat} {b : Ss} {ds : List D} (q : e[j]? = some (.val (.lst ds))) : MP.exec tb Φ (.forr (.nm i) (.val (.var j)) b) e h = loopF (fF tb Φ i b) ds e h :=
  ex_forv (x := .d (.lst ds)) (by simp [ownIt, q]) (by simp [opd, ev, q]) rfl
end
end MP
namespace MP
open PySem L2
/-- a loop that goes back at the first item that does not pass -/
theorem loop_find {α : Type} {f : D → Ev → MH → O} {g : α → D} {P : α → Bool} {d0 : D} {e : Ev} {h : MH} : ∀ {l : List α}, (∀ x ∈ l, P x = true → f (g x) e h = .nx e h) → (∀ x ∈ l, P x = false → f (g x) e h = .rt d0 h) → loopF f (l.map g) e h = if l.all P then .nx e h else .rt d0 h
  | [], _, _ => rfl
  | x :: r, H1, H2 => by
    show loopF f (g x :: r.map g) e h = _
    rw [List.all_cons]
    cases q : P x with
    | true =>
      rw [loopF_cons (H1 x List.mem_cons_self q), loop_find (fun y m => H1 y (List.mem_cons_of_mem _ m)) fun y m => H2 y (List.mem_cons_of_mem _ m)]
      rfl
    | false =>
      show (match f (g x) e h with
        | .nx e h => loopF f (r.map g) e h
        | .ct e h => loopF f (r.map g) e h
        | .bk e h => .nx e h
        | o => o) = _
      rw [H2 x List.mem_cons_self q]
      rfl
theorem execs_rt {tb : Tb} {Φ : Nat → List D → MH → R D} {s : MP.S} {l : Ss} {e : Ev} {h h' : MH} {d : D} (q : MP.exec tb Φ s e h = .rt d h') : MP.execs tb Φ (.cons s l) e h = .rt d h' := by
  show (match MP.exec tb Φ s e h with
    | .nx e h => MP.execs tb Φ l e h
    | o => o) = _
  rw [q]
end MP
namespace MP
open PySem L2
/-- a loop as a fold -/
theorem loop_fold {σ : Type} {f : D → Ev → MH → O} {E : σ → Ev} {g : σ → D → σ} {I : Nat → σ → Prop} {h : MH} : ∀ (l : List D) (i : Nat) (s : σ), (∀ d s j, d ∈ l → j < i + l.length → I j s → f d (E s) h = .nx (E (g s d)) h ∧ I (j + 1) (g s d)) → I i s → loopF f l (E s) h = .nx (E (l.foldl g s)) h ∧ I (i + l.length) (l.foldl g s)
  | [], _, _, _, q => ⟨rfl, q⟩
  | d :: r, i, s, H, q => by
    obtain ⟨q1, q2⟩ := H d s i List.mem_cons_self (by rw [List.length_cons]; omega) q
    obtain ⟨q3, q4⟩ := loop_fold (g := g) (I := I) r (i + 1) (g s d) (fun d s j m z => H d s j (List.mem_cons_of_mem _ m) (by rw [List.length_cons]; omega)) q2
    refine ⟨(loopF_cons q1).trans q3, ?_⟩
    rw [List.length_cons, show i + (r.length + 1) = i + 1 + r.length by omega]
    exact q4
end MP
namespace MP
open PySem L2
theorem loop_foldM {α σ : Type} {f : D → Ev → MH → O} {E : σ → Ev} {mk : α → D} {g : σ → α → σ} {I : Nat → σ → Prop} {h : MH} : ∀ (l : List α) (i : Nat) (s : σ), (∀ d s j, d ∈ l → j < i + l.length → I j s → f (mk d) (E s) h = .nx (E (g s d)) h ∧ I (j + 1) (g s d)) → I i s → loopF f (l.map mk) (E s) h = .nx (E (l.foldl g s)) h ∧ I (i + l.length) (l.foldl g s)
  | [], _, _, _, q => ⟨rfl, q⟩
  | d :: r, i, s, H, q => by
    obtain ⟨q1, q2⟩ := H d s i List.mem_cons_self (by rw [List.length_cons]; omega) q
    obtain ⟨q3, q4⟩ := loop_foldM (g := g) (I := I) r (i + 1) (g s d) (fun d s j m z => H d s j (List.mem_cons_of_mem _ m) (by rw [List.length_cons]; omega)) q2
    refine ⟨(loopF_cons q1).trans q3, ?_⟩
    rw [List.length_cons, show i + (r.length + 1) = i + 1 + r.length by omega]
    exact q4
theorem foldl_inv {α σ : Type} {g : σ → α → σ} {P : σ → Prop} : ∀ (l : List α) (s : σ), (∀ a ∈ l, ∀ s, P s → P (g s a)) → P s → P (l.foldl g s)
  | [], _, _, p => p
  | a :: r, s, H, p => foldl_inv r (g s a) (fun b m => H b (List.mem_cons_of_mem _ m)) (H a List.mem_cons_self s p)
end MP

set_option maxRecDepth 100000
set_option maxHeartbeats 4000000
/-! MP31: tools of the plain part: one-sign texts, comprehensions over them, sorted rows. -/
namespace MP
open PySem PySem.Spec PyProof.Rows L2 SrtO
/-- a text of one sign -/
def sg (c : Nat) : D := .str ⟨#[c]⟩
theorem str1_inj {a b : Nat} : (⟨#[a]⟩ : PySem.Str) = ⟨#[b]⟩ ↔ a = b := by
  constructor
  · intro h
    have : #[a] = #[b] := congrArg PySem.Str.cps h
    simpa using this
  · rintro rfl; rfl
theorem sg_eq (a b : Nat) : eqD (sg a) (sg b) = decide (a = b) := by
  show decide ((⟨#[a]⟩ : PySem.Str) = ⟨#[b]⟩) = _
  rw [decide_eq_decide]; exact str1_inj
theorem sg_fit {a : Nat} (h : a < 1114112) (k : Nat) : fit (sg a) k = true := by
  show PySem.PyData.strOk ⟨#[a]⟩ = true
  unfold PySem.PyData.strOk
  simp [h]
theorem sg_fitL {l : List Nat} (h : ∀ a ∈ l, a < 1114112) (k : Nat) : fitL (l.map sg) k = true := by
  induction l with
  | nil => rfl
  | cons a l ih =>
    show (fit (sg a) k && fitL (l.map sg) k) = true
    rw [sg_fit (h a List.mem_cons_self), ih fun b m => h b (List.mem_cons_of_mem _ m)]; rfl
theorem sg_any (a : Nat) (l : List Nat) : ((l.map sg).any fun z => eqD z (sg a)) = decide (a ∈ l) := by
  induction l with
  | nil => rfl
  | cons b l ih =>
    rw [List.map_cons, List.any_cons, ih, sg_eq]
    by_cases e : b = a
    · subst e; simp
    · have e' : ¬ a = b := fun z => e z.symm
      simp [e, e']
theorem sg_in {a : Nat} {l : List Nat} (ha : a < 1114112) (hl : ∀ b ∈ l, b < 1114112) : inD (sg a) (.lst (l.map sg)) = some (decide (a ∈ l)) := by
  have e : inD (sg a) (.lst (l.map sg)) = if fit (sg a) 60 && fitL (l.map sg) 60 then some ((l.map sg).any fun z => eqD z (sg a)) else none := rfl
  rw [e, sg_fit ha, sg_fitL hl, sg_any]; rfl
theorem sg_inS (a : Nat) (x : PySem.Str) : inD (sg a) (.str x) = some (decide (a ∈ x.cps.toList)) := rfl
theorem sg_idx {l : List Nat} {i : Nat} (hi : i < l.length) : idxD (.lst (l.map sg)) (.int (i : Int)) = some (sg l[i]) := by
  show L2.atI (l.map sg) (i : Int) = _
  rw [atI_nat (by rw [List.length_map]; exact hi), List.getElem?_map, List.getElem?_eq_getElem hi]; rfl
theorem sgT_idx {l : List Nat} {i : Nat} (hi : i < l.length) : idxD (.tup (l.map sg)) (.int (i : Int)) = some (sg l[i]) := sg_idx hi
theorem sgS_idx {x : PySem.Str} {i : Nat} (hi : i < x.cps.toList.length) (hl : x.length ≤ lim) : idxD (.str x) (.int (i : Int)) = some (sg x.cps.toList[i]) := by
  show (if x.length ≤ lim then (L2.atI x.cps.toList (i : Int)).map fun c => D.str ⟨#[c]⟩ else none) = _
  rw [if_pos hl]
  have : L2.atI x.cps.toList (i : Int) = some x.cps.toList[i] := by
    unfold L2.atI L2.ixN
    rw [if_pos (by omega), if_pos (by omega)]
    simp
  rw [this]; rfl
theorem strsItems (x : PySem.Str) : itemsD (.str x) = some (x.cps.toList.map sg) := rfl
/-! ### comprehensions -/
section
variable {tb : Tb} {Φ : Nat → List D → MH → R D}
theorem turns_lc {α : Type} {mk : α → D} {F : D → List D → MH → R (List D)} {P : α → Bool} {G : α → D} {h : MH} : ∀ (l : List α) (acc : List D), acc.length + l.length ≤ lim → (∀ a ∈ l, ∀ acc : List D, acc.length < lim → F (mk a) acc h = .ok (if P a then acc ++ [G a] else acc) h) → turns F (l.map mk) acc h = .ok (acc ++ (l.filter P).map G) h
  | [], acc, _, _ => by simp [turns]
  | a :: l, acc, hl, H => by
    show (F (mk a) acc h).bind (fun acc h => turns F (l.map mk) acc h) = _
    rw [List.length_cons] at hl
    rw [H a List.mem_cons_self acc (by omega)]
    show turns F (l.map mk) _ h = _
    rw [turns_lc l _ (by split <;> (try simp) <;> omega) fun b m => H b (List.mem_cons_of_mem _ m), List.filter_cons]
    split <;> simp
theorem ev_lc {α : Type} {mk : α → D} {ws : List Nat} {elt : M} {p : Pat} {it : It} {cs : Ts} {e : Ev} {h : MH} {l : List α} {P : α → Bool} {G : α → D} (hno : noOwn e ws = true) (hp : patIn ws p = true) (hit : evI tb Φ it e h = .ok (l.map mk) h) (hlen : l.length ≤ lim)
    (step : ∀ a ∈ l, ∃ e', bindP p (mk a) (wipeE e ws) = some e' ∧ evC tb Φ cs e' h = .ok (P a) h ∧ (P a = true → ev tb Φ elt e' h = .ok (G a) h)) : ev tb Φ (.lc ws elt p it cs) e h = .ok (.lst ((l.filter P).map G)) h := by
  unfold ev
  rw [hno, hp, if_pos (show (true && true) = true from rfl), hit]
  show ((turns _ (l.map mk) [] h).bind _) = _
  rw [turns_lc (P := P) (G := G) l [] (by simpa using hlen) fun a m acc hacc => ?_]
  · rfl
  · obtain ⟨e', h1, h2, h3⟩ := step a m
    simp only [h1, h2, R.bind]
    cases q : P a with
    | false => simp
    | true => simp [h3 q, R.bind, hacc]
theorem turnsR_lc {α : Type} {mk : α → D} {get : MH → Option (List D)} {F : D → List D → MH → R (List D)} {P : α → Bool} {G : α → D} {h : MH} {l : List α} (hg : get h = some (l.map mk)) (H : ∀ a ∈ l, ∀ acc : List D, acc.length < lim → F (mk a) acc h = .ok (if P a then acc ++ [G a] else acc) h) :
    ∀ (n i : Nat) (acc : List D), i + n = l.length → acc.length + n ≤ lim → turnsR get F n i acc h = .ok (acc ++ ((l.drop i).filter P).map G) h
  | 0, i, acc, hi, _ => by
    unfold turnsR
    rw [hg]
    have e0 : i = l.length := by omega
    subst e0
    simp
  | n + 1, i, acc, hi, hl => by
    unfold turnsR
    rw [hg]
    have hlt : i < l.length := by omega
    have e1 : (l.map mk)[i]? = some (mk l[i]) := by rw [List.getElem?_map, List.getElem?_eq_getElem hlt]; rfl
    simp only [e1]
    rw [H l[i] (List.getElem_mem hlt) acc (by omega)]
    show turnsR get F n (i + 1) _ h = _
    rw [turnsR_lc hg H n (i + 1) _ (by omega) (by split <;> (try simp) <;> omega), List.drop_eq_getElem_cons hlt, List.filter_cons]
    split <;> simp
theorem ev_lcR {α : Type} {mk : α → D} {ws : List Nat} {elt : M} {p : Pat} {m : M} {cs : Ts} {e : Ev} {h : MH} {x : D} {l : List α} {P : α → Bool} {G : α → D} (hno : noOwn e ws = true) (hp : patIn ws p = true) (hm : ev tb Φ m e h = .ok x h) (hv : (view x h).bind seqD = some (l.map mk)) (hlen : l.length ≤ lim)
    (step : ∀ a ∈ l, ∃ e', bindP p (mk a) (wipeE e ws) = some e' ∧ evC tb Φ cs e' h = .ok (P a) h ∧ (P a = true → ev tb Φ elt e' h = .ok (G a) h)) : ev tb Φ (.lcR ws elt p m cs) e h = .ok (.lst ((l.filter P).map G)) h := by
  unfold ev
  rw [hno, hp, if_pos (show (true && true) = true from rfl), hm]
  show (match (view x h).bind seqD with
    | some ds => _
    | none => _) = _
  simp only [hv]
  rw [List.length_map, turnsR_lc (P := P) (G := G) hv (fun a m acc hacc => ?_) l.length 0 [] (by omega) (by simpa using hlen)]
  · rfl
  · obtain ⟨e', h1, h2, h3⟩ := step a m
    simp only [h1, h2, R.bind]
    cases q : P a with
    | false => simp
    | true => simp [h3 q, R.bind, hacc]
/-- a walk over what may be shared, when it stays -/
theorem loopR_F {get : MH → Option (List D)} {f : D → Ev → MH → O} {h : MH} {ds : List D} (hg : get h = some ds) (hf : ∀ d e e' h', f d e h = .nx e' h' → h' = h) (hc : ∀ d e e' h', f d e h ≠ .ct e' h') : ∀ (n i : Nat) (e : Ev), i + n = ds.length → loopR get f n i e h = loopF f (ds.drop i) e h
  | 0, i, e, hi => by
    unfold loopR
    rw [hg]
    have e0 : i = ds.length := by omega
    subst e0
    simp [loopF]
  | n + 1, i, e, hi => by
    have hlt : i < ds.length := by omega
    rw [List.drop_eq_getElem_cons hlt]
    unfold loopR loopF
    rw [hg]
    simp only [List.getElem?_eq_getElem hlt]
    cases q : f ds[i] e h with
    | nx e2 h2 =>
      have := hf _ _ _ _ q
      subst this
      exact loopR_F hg hf hc n (i + 1) e2 (by omega)
    | ct e2 h2 => exact absurd q (hc _ _ _ _)
    | _ => rfl
end
/-! ### rows without repeats, sorted -/
def ddF (acc : List Nat) : List Nat → List Nat
  | [] => acc
  | c :: r => if c ∈ acc then ddF acc r else ddF (acc ++ [c]) r
theorem ddF_mem {c : Nat} : ∀ {l acc : List Nat}, c ∈ ddF acc l ↔ c ∈ acc ∨ c ∈ l
  | [], acc => by simp [ddF]
  | b :: r, acc => by
    unfold ddF
    split
    · rename_i hb
      rw [ddF_mem, List.mem_cons]
      constructor
      · rintro (h | h)
        · exact .inl h
        · exact .inr (.inr h)
      · rintro (h | rfl | h)
        · exact .inl h
        · exact .inl hb
        · exact .inr h
    · rw [ddF_mem, List.mem_append, List.mem_singleton, List.mem_cons, or_assoc]
theorem ddF_nodup : ∀ {l acc : List Nat}, acc.Nodup → (ddF acc l).Nodup
  | [], acc, h => h
  | b :: r, acc, h => by
    unfold ddF
    split
    · exact ddF_nodup h
    · rename_i hb
      refine ddF_nodup (List.nodup_append.mpr ⟨h, by simp, fun a ha c hc z => hb ?_⟩)
      have : c = b := by simpa using hc
      rw [← this, ← z]; exact ha
theorem ddF_append (acc l m : List Nat) : ddF acc (l ++ m) = ddF (ddF acc l) m := by
  induction l generalizing acc with
  | nil => rfl
  | cons b r ih =>
    show (if b ∈ acc then ddF acc (r ++ m) else ddF (acc ++ [b]) (r ++ m)) = ddF (if b ∈ acc then ddF acc r else ddF (acc ++ [b]) r) m
    split <;> exact ih _
def bT (c : Nat) : D × D := (sg c, .bl true)
theorem dput_bT (acc : List Nat) (c : Nat) : dput (acc.map bT) (sg c) (.bl true) = (if c ∈ acc then acc else acc ++ [c]).map bT := by
  induction acc with
  | nil => rfl
  | cons b r ih =>
    rw [List.map_cons]
    show (if eqD (sg b) (sg c) then (sg b, D.bl true) :: r.map bT else (sg b, .bl true) :: dput (r.map bT) (sg c) (.bl true)) = _
    rw [sg_eq]
    by_cases e : b = c
    · subst e; simp [bT]
    · have e' : ¬ c = b := fun z => e z.symm
      rw [decide_eq_false e, if_neg (by simp), ih]
      simp only [List.mem_cons, e', false_or]
      by_cases m : c ∈ r <;> simp [m, bT]
theorem setD_bT {acc : List Nat} {c : Nat} (h : acc.length < lim) : setD (.dct (acc.map bT)) (sg c) (.bl true) = some (.dct ((if c ∈ acc then acc else acc ++ [c]).map bT)) := by
  show (if kfit (acc.map bT) (sg c) && decide ((acc.map bT).length < lim) then some (D.dct (dput (acc.map bT) (sg c) (.bl true))) else none) = _
  have hk : kfit (acc.map bT) (sg c) = true := by cases acc <;> rfl
  rw [hk, List.length_map, decide_eq_true h, dput_bT]; rfl
theorem ltS_sg (a b : Nat) : ltS (sg a) (sg b) = decide (a < b) := by
  show decide ([a] < [b]) = _
  rw [decide_eq_decide]
  constructor
  · intro h
    rcases List.cons_lt_cons_iff.mp h with h | ⟨rfl, h⟩
    · exact h
    · exact absurd h (List.lt_irrefl _)
  · intro h; exact List.cons_lt_cons_iff.mpr (.inl h)
theorem swoN : Swo fun a b : Nat => decide (a < b) := ⟨fun x y h => by have := of_decide_eq_true h; exact decide_eq_false (by omega), fun x y z h1 h2 => by have := of_decide_eq_false h1; have := of_decide_eq_false h2; exact decide_eq_false (by omega)⟩
theorem isort_sg (l : List Nat) : isortB ltS (l.map sg) = (isortB (fun a b => decide (a < b)) l).map sg := by
  have ins : ∀ (c : Nat) (l : List Nat), insB ltS (sg c) (l.map sg) = (insB (fun a b => decide (a < b)) c l).map sg := fun c l => by
    induction l with
    | nil => rfl
    | cons b r ih =>
      rw [List.map_cons]
      unfold insB
      rw [ltS_sg]
      split
      · rw [ih]; rfl
      · rfl
  induction l with
  | nil => rfl
  | cons c r ih =>
    rw [List.map_cons]
    unfold isortB
    rw [ih, ins]
/-- the sorted row of what l has is what of U (rising) l has -/
theorem isort_filter {U l : List Nat} (hU : U.Pairwise (· < ·)) (nd : l.Nodup) (sub : ∀ c ∈ l, c ∈ U) : isortB (fun a b => decide (a < b)) l = U.filter fun c => decide (c ∈ l) := by
  have hF : (U.filter fun c => decide (c ∈ l)).Pairwise (· < ·) := hU.sublist List.filter_sublist
  have s2 : Srtd (fun a b : Nat => decide (a < b)) (U.filter fun c => decide (c ∈ l)) := hF.imp fun {a b} h => decide_eq_false (by omega)
  have nd2 : (U.filter fun c => decide (c ∈ l)).Nodup := hF.imp fun {a b} h => by omega
  have pm : (U.filter fun c => decide (c ∈ l)).Perm l := (List.perm_ext_iff_of_nodup nd2 nd).mpr fun c => by
    rw [List.mem_filter, decide_eq_true_eq]
    exact ⟨fun h => h.2, fun h => ⟨sub c h, h⟩⟩
  refine (isortB_uniq swoN s2 ⟨pm, fun x => ?_⟩).symm
  have cl : ∀ m : List Nat, m.Nodup → m.filter (eqv (fun a b : Nat => decide (a < b)) x) = if x ∈ m then [x] else [] := fun m hm => by
    have e : (eqv (fun a b : Nat => decide (a < b)) x) = fun y => decide (y = x) := funext fun y => by
      unfold eqv
      by_cases h : y = x
      · subst h; simp
      · rcases Nat.lt_or_gt_of_ne h with h1 | h1
        · simp [h, h1]
        · simp [h, h1]
    rw [e]
    induction m with
    | nil => rfl
    | cons b r ih =>
      obtain ⟨h1, h2⟩ := List.nodup_cons.mp hm
      rw [List.filter_cons, ih h2]
      by_cases h : b = x
      · subst h; simp [h1]
      · have h' : ¬ x = b := fun z => h z.symm
        simp [h, h']
  rw [cl _ nd2, cl _ nd]
  have : x ∈ (U.filter fun c => decide (c ∈ l)) ↔ x ∈ l := pm.mem_iff
  by_cases h : x ∈ l
  · rw [if_pos (this.mpr h), if_pos h]
  · rw [if_neg (fun z => h (this.mp z)), if_neg h]
theorem isort_all {l : List Nat} : (isortB (fun a b : Nat => decide (a < b)) l).length = l.length := isortB_len l
theorem distS_nodup : ∀ {l acc : List Nat}, l.Nodup → (∀ c ∈ l, c ∉ acc) → distS (acc.map sg) (l.map sg) = l.length
  | [], _, _, _ => rfl
  | c :: r, acc, nd, h => by
    obtain ⟨h1, h2⟩ := List.nodup_cons.mp nd
    rw [List.map_cons]
    unfold distS
    rw [sg_any, decide_eq_false (h c List.mem_cons_self), if_neg (by simp)]
    have := distS_nodup (l := r) (acc := c :: acc) h2 fun b m z => by
      rcases List.mem_cons.mp z with rfl | z
      · exact h1 m
      · exact h b (List.mem_cons_of_mem _ m) z
    rw [List.map_cons] at this
    rw [this]; rfl
theorem allStr_sg (l : List Nat) : (l.map sg).all isStrD = true := by
  induction l with
  | nil => rfl
  | cons a l ih => rw [List.map_cons, List.all_cons, ih]; rfl
end MP

set_option maxRecDepth 100000
set_option maxHeartbeats 4000000
/-! MP31b: steps of the plain part, each a term. -/
namespace MP
open PySem PySem.Spec PyProof.Rows L2
section
variable {tb : Tb} {Φ : Nat → List D → MH → R D} {e e' : Ev} {h h1 h2 h' : MH} {m a b c : M} {x y z u v : D}
theorem view_str {x : Str} {h : MH} : view (.str x) h = some (.str x) := rfl
theorem view_sg {c : Nat} {h : MH} : view (sg c) h = some (sg c) := rfl
theorem view_int {i : Int} {h : MH} : view (.int i) h = some (.int i) := rfl
theorem view_bl {b : Bool} {h : MH} : view (.bl b) h = some (.bl b) := rfl
theorem view_tup {l : List D} {h : MH} : view (.tup l) h = some (.tup l) := rfl
theorem view_lst {l : List D} {h : MH} : view (.lst l) h = some (.lst l) := rfl
theorem view_dct {l : List (D × D)} {h : MH} : view (.dct l) h = some (.dct l) := rfl
theorem opd_ok (q : ev tb Φ m e h = .ok x h') : opd m (ev tb Φ m e h) e h = .ok (.d x) h' := by
  cases m with
  | var i =>
    have q' : (match e[i]? with
      | some (.val d) => R.ok d h
      | _ => .no) = .ok x h' := by unfold ev at q; exact q
    show (match e[i]? with
      | some (.val d) => R.ok (Od.d d) h
      | some (.own _) => .ok (.own i) h
      | _ => .no) = _
    split at q'
    · rename_i d hd
      cases q'
      rw [hd]
    · cases q'
  | _ => rw [q]; rfl
/-- an own slot as operand -/
theorem opd_own {i : Nat} (q : e[i]? = some (.own x)) : opd (.var i) (ev tb Φ (.var i) e h) e h = .ok (.own i) h := by
  show (match e[i]? with
      | some (.val d) => R.ok (Od.d d) h
      | some (.own _) => .ok (.own i) h
      | _ => .no) = _
  rw [q]
/-- the operand has the content x -/
def Oc (tb : Tb) (Φ : Nat → List D → MH → R D) (m : M) (e : Ev) (h : MH) (x : D) (h' : MH) : Prop := ∃ o : Od, opd m (ev tb Φ m e h) e h = .ok o h' ∧ vo e h' o = some x
theorem Ov (q : ev tb Φ m e h = .ok x h') (hv : view x h' = some v) : Oc tb Φ m e h v h' := ⟨_, opd_ok q, hv⟩
theorem Oo {i : Nat} (q : e[i]? = some (.own x)) : Oc tb Φ (.var i) e h x h := ⟨_, opd_own q, by simp only [vo, q]⟩
theorem E_var {i : Nat} (q : e[i]? = some (.val x)) : ev tb Φ (.var i) e h = .ok x h := by simp only [ev, q]
theorem E_cst : ev tb Φ (.cst x) e h = .ok x h := rfl
theorem E_glo {g : Nat} (q : tb.glo g = x) : ev tb Φ (.glo g) e h = .ok x h := by rw [← q]; rfl
theorem E_bin {op : Bop} (ha : Oc tb Φ a e h x h) (hb : Oc tb Φ b e h y h) (q : binD op x y = some z) : ev tb Φ (.bin op a b) e h = .ok z h := by
  obtain ⟨o, a1, a2⟩ := ha
  obtain ⟨w, b1, b2⟩ := hb
  simp only [ev, a1, b1, R.bind, a2, b2, q, R.of]
theorem E_cmp {op : Cop} {t : Bool} (ha : Oc tb Φ a e h x h) (hb : Oc tb Φ b e h y h) (q : cmpD op x y = some t) : ev tb Φ (.cmp op a b) e h = .ok (.bl t) h := by
  obtain ⟨o, a1, a2⟩ := ha
  obtain ⟨w, b1, b2⟩ := hb
  simp only [ev, a1, b1, R.bind, a2, b2, q, R.of, Option.map_some]
theorem E_idx (ha : Oc tb Φ a e h x h) (hb : ev tb Φ b e h = .ok y h) (q : idxD x y = some z) : ev tb Φ (.idx a b) e h = .ok z h := by
  obtain ⟨o, a1, a2⟩ := ha
  simp only [ev, a1, hb, R.bind, a2]
  cases x with
  | ins c fs => cases q
  | _ => simp only [q, R.of]
theorem E_and1 (ha : ev tb Φ a e h = .ok (.bl true) h1) (hb : ev tb Φ b e h1 = .ok z h') : ev tb Φ (.andd a b) e h = .ok z h' := by
  simp only [ev, ha, R.bind]; exact hb
theorem E_and0 (ha : ev tb Φ a e h = .ok (.bl false) h') : ev tb Φ (.andd a b) e h = .ok (.bl false) h' := by
  simp only [ev, ha, R.bind]
theorem E_or1 (ha : ev tb Φ a e h = .ok (.bl true) h') : ev tb Φ (.orr a b) e h = .ok (.bl true) h' := by
  simp only [ev, ha, R.bind]
theorem E_or0 (ha : ev tb Φ a e h = .ok (.bl false) h1) (hb : ev tb Φ b e h1 = .ok z h') : ev tb Φ (.orr a b) e h = .ok z h' := by
  simp only [ev, ha, R.bind]; exact hb
theorem E_nott {t : Bool} (ha : ev tb Φ a e h = .ok (.bl t) h') : ev tb Φ (.nott a) e h = .ok (.bl !t) h' := by
  simp only [ev, ha, R.bind]
theorem E_nil : evs tb Φ .nil e h = .ok [] h := rfl
theorem E_cons {l : Ms} {ds : List D} (ha : ev tb Φ a e h = .ok x h1) (hl : evs tb Φ l e h1 = .ok ds h') : evs tb Φ (.cons a l) e h = .ok (x :: ds) h' := by
  simp only [evs, ha, R.bind, hl]
theorem E_tup {l : Ms} {ds : List D} (q : evs tb Φ l e h = .ok ds h') (hl : decide (ds.length ≤ lim) = true) : ev tb Φ (.tup l) e h = .ok (.tup ds) h' := by
  simp only [ev, q, R.bind, if_pos (of_decide_eq_true hl)]
theorem E_lst {l : Ms} {ds : List D} (q : evs tb Φ l e h = .ok ds h') (hl : decide (ds.length ≤ lim) = true) : ev tb Φ (.lst l) e h = .ok (.lst ds) h' := by
  simp only [ev, q, R.bind, if_pos (of_decide_eq_true hl)]
theorem E_call {f : Nat} {l : Ms} {ds : List D} (q : evs tb Φ l e h = .ok ds h1) (hd : ∀ n, tb.dfl f n = []) (r : Φ f ds h1 = .ok z h') : ev tb Φ (.call f l) e h = .ok z h' := by
  simp only [ev, q, R.bind, hd, List.append_nil, r]
theorem E_blt {bl : Blt} (ha : Oc tb Φ a e h x h') (q : bltD bl [x] = some z) : ev tb Φ (.blt bl (.cons a .nil)) e h = .ok z h' := by
  obtain ⟨o, a1, a2⟩ := ha
  simp only [ev, evOs, a1, R.bind, vos, a2, q, R.of]
theorem E_isi {t : Ty} {r : Bool} (ha : Oc tb Φ a e h x h') (q : isD tb x t = some r) : ev tb Φ (.isi a t) e h = .ok (.bl r) h' := by
  obtain ⟨o, a1, a2⟩ := ha
  simp only [ev, a1, R.bind, a2, q, R.of, Option.map_some]
theorem E_att {c : Nat} {f : Str} {fs : List (Str × D)} (ha : ev tb Φ a e h = .ok x h') (hv : view x h' = some (.ins c fs)) (hf : tb.fld c f = true) (q : fget fs f = some z) : ev tb Φ (.att a f) e h = .ok z h' := by
  simp only [ev, ha, R.bind, hv, hf, if_true, q, R.of]
theorem E_bm {bm : Bmt} {l : Ms} {ds : List D} (ha : Oc tb Φ a e h x h) (hk : decide (kindT x = some (bmK bm)) = true) (hl : evs tb Φ l e h = .ok ds h) (q : bmD bm x ds = some z) : ev tb Φ (.bm bm a l) e h = .ok z h := by
  obtain ⟨o, a1, a2⟩ := ha
  simp only [ev, a1, R.bind, a2, hk, if_true, hl, q, R.of]
theorem E_slc {lo hi : Mo} {p q : Option Int} (ha : Oc tb Φ a e h x h) (hl : evo tb Φ lo e h = .ok p h) (hu : evo tb Φ hi e h = .ok q h) (r : slcD x p q = some z) : ev tb Φ (.slc a lo hi) e h = .ok z h := by
  obtain ⟨o, a1, a2⟩ := ha
  simp only [ev, a1, R.bind, hl, hu, a2, r, R.of]
theorem E_no : evo tb Φ .no e h = .ok none h := rfl
theorem E_so {i : Int} (q : ev tb Φ m e h = .ok (.int i) h') : evo tb Φ (.so m) e h = .ok (some i) h' := by simp only [evo, q, R.bind]
theorem E_chn {op op' : Cop} {t : Bool} (ha : Oc tb Φ a e h x h) (hb : Oc tb Φ b e h y h) (hc : Oc tb Φ c e h z h) (q1 : cmpD op x y = some true) (q2 : cmpD op' y z = some t) : ev tb Φ (.chn op op' a b c) e h = .ok (.bl t) h := by
  obtain ⟨o, a1, a2⟩ := ha
  obtain ⟨w, b1, b2⟩ := hb
  obtain ⟨w', c1, c2⟩ := hc
  simp only [ev, a1, b1, c1, R.bind, a2, b2, c2, q1, q2, R.of, Option.map_some]
theorem E_srt {l : List D} (ha : Oc tb Φ a e h (.lst l) h') (q1 : l.all isStrD = true) (q2 : l.length < 60) : ev tb Φ (.srt .str a) e h = .ok (.lst (isortB ltS l)) h' := by
  obtain ⟨o, a1, a2⟩ := ha
  simp only [ev, a1, R.bind, a2, q1, q2, decide_true, Bool.and_self, if_true]
theorem T_v {t : Bool} (q : ev tb Φ m e h = .ok (.bl t) h') : evT tb Φ (.v m) e h = .ok t h' := by
  simp only [evT]
  rw [opd_ok q]
  rfl
theorem T_tru {t : Bool} (q : Oc tb Φ m e h x h') (r : truD x = some t) : evT tb Φ (.v m) e h = .ok t h' := by
  obtain ⟨o, a1, a2⟩ := q
  simp only [evT, a1, R.bind, a2, Option.bind_some, r, R.of]
theorem T_not {t : T} {r : Bool} (q : evT tb Φ t e h = .ok r h') : evT tb Φ (.not t) e h = .ok (!r) h' := by simp only [evT, q, R.bind]
theorem T_or0 {t s : T} {r : Bool} (q : evT tb Φ t e h = .ok false h1) (q2 : evT tb Φ s e h1 = .ok r h') : evT tb Φ (.or t s) e h = .ok r h' := by
  simp only [evT, q, R.bind, q2]; rfl
theorem T_or1 {t s : T} (q : evT tb Φ t e h = .ok true h') : evT tb Φ (.or t s) e h = .ok true h' := by
  simp only [evT, q, R.bind]; rfl
theorem T_and1 {t s : T} {r : Bool} (q : evT tb Φ t e h = .ok true h1) (q2 : evT tb Φ s e h1 = .ok r h') : evT tb Φ (.and t s) e h = .ok r h' := by
  simp only [evT, q, R.bind, q2]; rfl
theorem T_and0 {t s : T} (q : evT tb Φ t e h = .ok false h') : evT tb Φ (.and t s) e h = .ok false h' := by
  simp only [evT, q, R.bind]; rfl
theorem I_rng {n : Nat} (q : ev tb Φ a e h = .ok (.int (n : Int)) h') (hn : n < 4611686018427387904) : evI tb Φ (.rng a) e h = .ok ((List.range n).map fun (i : Nat) => D.int (i : Int)) h' := by
  have e1 : rngOk (n : Int) = true := decide_eq_true (by omega)
  have e2 : rngL 0 (n : Int) = (List.range n).map fun (i : Nat) => D.int (i : Int) := by
    unfold rngL
    rw [show ((n : Int) - 0).toNat = n by omega]
    exact List.map_congr_left fun i _ => by rw [Int.zero_add]
  simp only [evI, q, R.bind, e1, if_true, e2]
theorem I_val {ds : List D} (q : ev tb Φ a e h = .ok x h') (hn : ∀ n, x ≠ .ref n) (hi : itemsD x = some ds) : evI tb Φ (.val a) e h = .ok ds h' := by
  simp only [evI]
  rw [opd_ok q]
  simp only [R.bind]
  have : vi e (.d x) = some x := by
    cases x with
    | ref n => exact absurd rfl (hn n)
    | _ => rfl
  rw [this, Option.bind_some, hi]; rfl
theorem X_set {i : Nat} (q : ev tb Φ a e h = .ok x h') : MP.exec tb Φ (.set i a) e h = .nx (e.set i (.val x)) h' := by simp only [MP.exec, q, R.st]
theorem X_setN {i : Nat} (q : ev tb Φ a e h = .ok x h') (hf : freshD x = true) : MP.exec tb Φ (.setN i a) e h = .nx (e.set i (.own x)) h' := by simp only [MP.exec, q, R.st, hf, if_true]
theorem X_put {i : Nat} (hb : ev tb Φ b e h = .ok y h1) (ha : ev tb Φ a e h1 = .ok x h') (ho : e[i]? = some (.own u)) (q : setD u x y = some z) : MP.exec tb Φ (.put i a b) e h = .nx (e.set i (.own z)) h' := by
  simp only [MP.exec, hb, ha, R.st, ho, q, Option.map_some, O.of]
theorem X_app {i : Nat} {l : List D} (ha : ev tb Φ a e h = .ok x h') (ho : e[i]? = some (.own (.lst l))) (q : l.length < lim) : MP.exec tb Φ (.app i a) e h = .nx (e.set i (.own (.lst (l ++ [x])))) h' := by
  simp only [MP.exec, ha, R.st, ho, q, if_true]
theorem X_ret (q : ev tb Φ a e h = .ok x h') : MP.exec tb Φ (.ret a) e h = .rt x h' := by simp only [MP.exec, q, R.st]
theorem X_retF (q : ev tb Φ a e h = .ok x h') (hf : freshD x = true) : MP.exec tb Φ (.retF a) e h = .rtF x h' := by simp only [MP.exec, q, R.st, hf, if_true]
theorem execs_rtF {s : MP.S} {l : Ss} {d : D} (q : MP.exec tb Φ s e h = .rtF d h') : MP.execs tb Φ (.cons s l) e h = .rtF d h' := by
  show (match MP.exec tb Φ s e h with
    | .nx e h => MP.execs tb Φ l e h
    | o => o) = _
  rw [q]
theorem X_satt {n c : Nat} {f : Str} {fs : List (Str × D)} (hb : ev tb Φ b e h = .ok y h1) (ha : ev tb Φ a e h1 = .ok (.ref n) h') (ho : h'[n]? = some (.ins c fs)) (q : (decide (fs.length < 900) && tb.fld c f) = true) : MP.exec tb Φ (.satt a f b) e h = .nx e (h'.set n (.ins c (fput f y fs))) := by
  simp only [MP.exec, hb, ha, R.st, ho]
  rw [if_pos (by simpa using q)]
theorem X_if {t : T} {p q : Ss} (ht : evT tb Φ t e h = .ok true h1) : MP.exec tb Φ (.iff t p q) e h = MP.execs tb Φ p e h1 := by rw [ex_iff ht, if_pos rfl]
theorem X_else {t : T} {p q : Ss} (ht : evT tb Φ t e h = .ok false h1) : MP.exec tb Φ (.iff t p q) e h = MP.execs tb Φ q e h1 := by rw [ex_iff ht, if_neg Bool.false_ne_true]
/-- .. with nothing in the other branch -/
theorem X_skip {t : T} {p : Ss} (ht : evT tb Φ t e h = .ok false h1) : MP.exec tb Φ (.iff t p .nil) e h = .nx e h1 := X_else ht
theorem X_for {p : Pat} {it : It} {b : Ss} {ds : List D} (ho : ownIt e it = false) (q : evI tb Φ it e h = .ok ds h') : MP.exec tb Φ (.forr p it b) e h = loopF (fun d e h => (match bindP p d e with
    | some e => MP.execs tb Φ b e h
    | none => .no)) ds e h' := by
  simp only [MP.exec, ho, Bool.false_eq_true, if_false, q, R.st]
  try rfl
/-- a walk over a row, a state to each turn -/
theorem loop_seq {α σ : Type} {f : D → Ev → MH → O} {E : σ → Ev} {mk : α → D} {g : σ → α → σ} {H : σ → MH} {I : List α → σ → Prop} : ∀ (l : List α) (s : σ), (∀ a r s, I (a :: r) s → f (mk a) (E s) (H s) = .nx (E (g s a)) (H (g s a)) ∧ I r (g s a)) → I l s → loopF f (l.map mk) (E s) (H s) = .nx (E (l.foldl g s)) (H (l.foldl g s)) ∧ I [] (l.foldl g s)
  | [], s, _, q => ⟨rfl, q⟩
  | a :: r, s, K, q => by
    obtain ⟨q1, q2⟩ := K a r s q
    obtain ⟨q3, q4⟩ := loop_seq r (g s a) K q2
    exact ⟨(loopF_cons q1).trans q3, q4⟩
/-- .. over what may be shared, when it stays -/
theorem loopR_seq {α σ : Type} {get : MH → Option (List D)} {f : D → Ev → MH → O} {E : σ → Ev} {mk : α → D} {g : σ → α → σ} {h : MH} {I : List α → σ → Prop} {L : List α} (hg : get h = some (L.map mk)) (K : ∀ a r s, I (a :: r) s → f (mk a) (E s) h = .nx (E (g s a)) h ∧ I r (g s a)) :
    ∀ (n i : Nat) (s : σ), i + n = L.length → I (L.drop i) s → loopR get f n i (E s) h = .nx (E ((L.drop i).foldl g s)) h ∧ I [] ((L.drop i).foldl g s)
  | 0, i, s, hi, q => by
    have e0 : i = L.length := by omega
    subst e0
    rw [List.drop_length] at q ⊢
    unfold loopR
    rw [hg]
    exact ⟨by simp, q⟩
  | n + 1, i, s, hi, q => by
    have hlt : i < L.length := by omega
    rw [List.drop_eq_getElem_cons hlt] at q ⊢
    obtain ⟨q1, q2⟩ := K _ _ _ q
    unfold loopR
    rw [hg]
    have e1 : (L.map mk)[i]? = some (mk L[i]) := by rw [List.getElem?_map, List.getElem?_eq_getElem hlt]; rfl
    simp only [e1, q1]
    exact loopR_seq hg K n (i + 1) _ (by omega) q2
end
end MP

set_option maxRecDepth 100000
set_option maxHeartbeats 4000000
/-! MP32: pieces: texts, instructions. -/
namespace MP
open PySem PySem.Spec PyProof.Rows L2
def y_ : Str := (⟨#[]⟩ : PySem.Str)
def y_0 : Str := (⟨#[48]⟩ : PySem.Str)
def y_1 : Str := (⟨#[49]⟩ : PySem.Str)
def y_A : Str := (⟨#[65]⟩ : PySem.Str)
def y_B : Str := (⟨#[66]⟩ : PySem.Str)
def y_H : Str := (⟨#[72]⟩ : PySem.Str)
def y_HJ : Str := (⟨#[72, 74]⟩ : PySem.Str)
def y_HK : Str := (⟨#[72, 75]⟩ : PySem.Str)
def y_K : Str := (⟨#[75]⟩ : PySem.Str)
def y_M : Str := (⟨#[77]⟩ : PySem.Str)
def y_MM : Str := (⟨#[77, 77]⟩ : PySem.Str)
def y_MN : Str := (⟨#[77, 78]⟩ : PySem.Str)
def y_M_20 : Str := (⟨#[77, 32]⟩ : PySem.Str)
def y_N : Str := (⟨#[78]⟩ : PySem.Str)
def y_Put : Str := (⟨#[80, 117, 116]⟩ : PySem.Str)
def y_Z : Str := (⟨#[90]⟩ : PySem.Str)
def y__0a : Str := (⟨#[10]⟩ : PySem.Str)
def y__20 : Str := (⟨#[32]⟩ : PySem.Str)
def y__21 : Str := (⟨#[33]⟩ : PySem.Str)
def y__21_2b : Str := (⟨#[33, 43]⟩ : PySem.Str)
def y__26 : Str := (⟨#[38]⟩ : PySem.Str)
def y__26_21 : Str := (⟨#[38, 33]⟩ : PySem.Str)
def y__2a : Str := (⟨#[42]⟩ : PySem.Str)
def y__2a_21 : Str := (⟨#[42, 33]⟩ : PySem.Str)
def y__2b : Str := (⟨#[43]⟩ : PySem.Str)
def y__2b_20 : Str := (⟨#[43, 32]⟩ : PySem.Str)
def y__2b_21 : Str := (⟨#[43, 33]⟩ : PySem.Str)
def y__2b_2b : Str := (⟨#[43, 43]⟩ : PySem.Str)
def y__2d : Str := (⟨#[45]⟩ : PySem.Str)
def y__2d_21 : Str := (⟨#[45, 33]⟩ : PySem.Str)
def y__2d_2b : Str := (⟨#[45, 43]⟩ : PySem.Str)
def y__2d_2d : Str := (⟨#[45, 45]⟩ : PySem.Str)
def y__2f : Str := (⟨#[47]⟩ : PySem.Str)
def y__3a : Str := (⟨#[58]⟩ : PySem.Str)
def y__3c : Str := (⟨#[60]⟩ : PySem.Str)
def y__3c_21 : Str := (⟨#[60, 33]⟩ : PySem.Str)
def y__3c_3d : Str := (⟨#[60, 61]⟩ : PySem.Str)
def y__3d : Str := (⟨#[61]⟩ : PySem.Str)
def y__3d_21 : Str := (⟨#[61, 33]⟩ : PySem.Str)
def y__3d_3c : Str := (⟨#[61, 60]⟩ : PySem.Str)
def y__3d_3d : Str := (⟨#[61, 61]⟩ : PySem.Str)
def y__3e : Str := (⟨#[62]⟩ : PySem.Str)
def y__40 : Str := (⟨#[64]⟩ : PySem.Str)
def y__5b : Str := (⟨#[91]⟩ : PySem.Str)
def y__5f : Str := (⟨#[95]⟩ : PySem.Str)
def y__60 : Str := (⟨#[96]⟩ : PySem.Str)
def y__7b : Str := (⟨#[123]⟩ : PySem.Str)
def y_a : Str := (⟨#[97]⟩ : PySem.Str)
def y_a_20 : Str := (⟨#[97, 32]⟩ : PySem.Str)
def y_aa : Str := (⟨#[97, 97]⟩ : PySem.Str)
def y_ab : Str := (⟨#[97, 98]⟩ : PySem.Str)
def y_abc : Str := (⟨#[97, 98, 99]⟩ : PySem.Str)
def y_abcd : Str := (⟨#[97, 98, 99, 100]⟩ : PySem.Str)
def y_abcdef : Str := (⟨#[97, 98, 99, 100, 101, 102]⟩ : PySem.Str)
def y_abcdefghijklmnopqrstuvwxyz : Str := (⟨#[97, 98, 99, 100, 101, 102, 103, 104, 105, 106, 107, 108, 109, 110, 111, 112, 113, 114, 115, 116, 117, 118, 119, 120, 121, 122]⟩ : PySem.Str)
def y_add : Str := (⟨#[97, 100, 100]⟩ : PySem.Str)
def y_any : Str := (⟨#[97, 110, 121]⟩ : PySem.Str)
def y_ask : Str := (⟨#[97, 115, 107]⟩ : PySem.Str)
def y_b : Str := (⟨#[98]⟩ : PySem.Str)
def y_bad : Str := (⟨#[98, 97, 100]⟩ : PySem.Str)
def y_c : Str := (⟨#[99]⟩ : PySem.Str)
def y_cells : Str := (⟨#[99, 101, 108, 108, 115]⟩ : PySem.Str)
def y_choices : Str := (⟨#[99, 104, 111, 105, 99, 101, 115]⟩ : PySem.Str)
def y_choose : Str := (⟨#[99, 104, 111, 111, 115, 101]⟩ : PySem.Str)
def y_code : Str := (⟨#[99, 111, 100, 101]⟩ : PySem.Str)
def y_d : Str := (⟨#[100]⟩ : PySem.Str)
def y_e : Str := (⟨#[101]⟩ : PySem.Str)
def y_end : Str := (⟨#[101, 110, 100]⟩ : PySem.Str)
def y_f : Str := (⟨#[102]⟩ : PySem.Str)
def y_firm : Str := (⟨#[102, 105, 114, 109]⟩ : PySem.Str)
def y_fresh : Str := (⟨#[102, 114, 101, 115, 104]⟩ : PySem.Str)
def y_g : Str := (⟨#[103]⟩ : PySem.Str)
def y_h : Str := (⟨#[104]⟩ : PySem.Str)
def y_idle : Str := (⟨#[105, 100, 108, 101]⟩ : PySem.Str)
def y_inputs : Str := (⟨#[105, 110, 112, 117, 116, 115]⟩ : PySem.Str)
def y_jump : Str := (⟨#[106, 117, 109, 112]⟩ : PySem.Str)
def y_k : Str := (⟨#[107]⟩ : PySem.Str)
def y_keep : Str := (⟨#[107, 101, 101, 112]⟩ : PySem.Str)
def y_load : Str := (⟨#[108, 111, 97, 100]⟩ : PySem.Str)
def y_m : Str := (⟨#[109]⟩ : PySem.Str)
def y_merge : Str := (⟨#[109, 101, 114, 103, 101]⟩ : PySem.Str)
def y_mr : Str := (⟨#[109, 114]⟩ : PySem.Str)
def y_names : Str := (⟨#[110, 97, 109, 101, 115]⟩ : PySem.Str)
def y_once : Str := (⟨#[111, 110, 99, 101]⟩ : PySem.Str)
def y_outputs : Str := (⟨#[111, 117, 116, 112, 117, 116, 115]⟩ : PySem.Str)
def y_over : Str := (⟨#[111, 118, 101, 114]⟩ : PySem.Str)
def y_p : Str := (⟨#[112]⟩ : PySem.Str)
def y_pq : Str := (⟨#[112, 113]⟩ : PySem.Str)
def y_print : Str := (⟨#[112, 114, 105, 110, 116]⟩ : PySem.Str)
def y_put : Str := (⟨#[112, 117, 116]⟩ : PySem.Str)
def y_r : Str := (⟨#[114]⟩ : PySem.Str)
def y_rank : Str := (⟨#[114, 97, 110, 107]⟩ : PySem.Str)
def y_registers : Str := (⟨#[114, 101, 103, 105, 115, 116, 101, 114, 115]⟩ : PySem.Str)
def y_rk : Str := (⟨#[114, 107]⟩ : PySem.Str)
def y_rm : Str := (⟨#[114, 109]⟩ : PySem.Str)
def y_rmr : Str := (⟨#[114, 109, 114]⟩ : PySem.Str)
def y_rp : Str := (⟨#[114, 112]⟩ : PySem.Str)
def y_rr : Str := (⟨#[114, 114]⟩ : PySem.Str)
def y_rrrr : Str := (⟨#[114, 114, 114, 114]⟩ : PySem.Str)
def y_rsrr : Str := (⟨#[114, 115, 114, 114]⟩ : PySem.Str)
def y_s : Str := (⟨#[115]⟩ : PySem.Str)
def y_select : Str := (⟨#[115, 101, 108, 101, 99, 116]⟩ : PySem.Str)
def y_standing : Str := (⟨#[115, 116, 97, 110, 100, 105, 110, 103]⟩ : PySem.Str)
def y_stay : Str := (⟨#[115, 116, 97, 121]⟩ : PySem.Str)
def y_step : Str := (⟨#[115, 116, 101, 112]⟩ : PySem.Str)
def y_store : Str := (⟨#[115, 116, 111, 114, 101]⟩ : PySem.Str)
def y_table : Str := (⟨#[116, 97, 98, 108, 101]⟩ : PySem.Str)
def y_test : Str := (⟨#[116, 101, 115, 116]⟩ : PySem.Str)
def y_vow : Str := (⟨#[118, 111, 119]⟩ : PySem.Str)
def y_width : Str := (⟨#[119, 105, 100, 116, 104]⟩ : PySem.Str)
def y_wrap : Str := (⟨#[119, 114, 97, 112]⟩ : PySem.Str)
def y_wrong : Str := (⟨#[119, 114, 111, 110, 103]⟩ : PySem.Str)
def y_y : Str := (⟨#[121]⟩ : PySem.Str)
def y_z : Str := (⟨#[122]⟩ : PySem.Str)
def y_zero : Str := (⟨#[122, 101, 114, 111]⟩ : PySem.Str)
/-- 2 2 ['part', 'letters'] -/
def B_one_of : Ss := (.cons (.ret (.andd (.isi (.var 0) .str) (.andd (.cmp .eq (.blt .len (.cons (.var 0) .nil)) (.cst (.int (1)))) (.cmp .inn (.var 0) (.var 1))))) .nil)
/-- 2 2 ['part', 'most'] -/
def B_within : Ss := (.cons (.ret (.andd (.isi (.var 0) .int) (.andd (.nott (.isi (.var 0) .bool)) (.chn .le .le (.cst (.int (0))) (.var 0) (.var 1))))) .nil)
/-- 3 3 ['part', 'letter', 'size'] -/
def B_fits (c_one_of c_within g_SMALL g_GREAT g_SIGNS : Nat) : Ss := (.cons (.iff (.v (.cmp .eq (.var 1) (.cst (.str y_r)))) (.cons (.ret (.call c_one_of (.cons (.var 0) (.cons (.glo g_SMALL) .nil)))) .nil) .nil) (.cons (.iff (.v (.cmp .eq (.var 1) (.cst (.str y_m)))) (.cons (.ret (.call c_one_of (.cons (.var 0) (.cons (.glo g_GREAT) .nil)))) .nil) .nil) (.cons (.iff (.v (.cmp .eq (.var 1) (.cst (.str y_k)))) (.cons (.ret (.call c_within (.cons (.var 0) (.cons (.cst (.int (7))) .nil)))) .nil) .nil) (.cons (.iff (.v (.cmp .eq (.var 1) (.cst (.str y_p)))) (.cons (.ret (.call c_within (.cons (.var 0) (.cons (.var 2) .nil)))) .nil) .nil) (.cons (.ret (.andd (.isi (.var 0) .str) (.cmp .inn (.var 0) (.glo g_SIGNS)))) .nil)))))
/-- 2 4 ['instruction', 'size', 'form', 'k'] -/
def B_valid (c_fits g_FORMS : Nat) : Ss := (.cons (.iff (.or (.v (.cmp .eq (.blt .len (.cons (.var 0) .nil)) (.cst (.int (0))))) (.v (.cmp .nin (.idx (.var 0) (.cst (.int (0)))) (.glo g_FORMS)))) (.cons (.ret (.cst (.bl false))) .nil) .nil) (.cons (.set 2 (.idx (.glo g_FORMS) (.idx (.var 0) (.cst (.int (0)))))) (.cons (.iff (.v (.cmp .ne (.blt .len (.cons (.var 0) .nil)) (.bin .add (.blt .len (.cons (.var 2) .nil)) (.cst (.int (1)))))) (.cons (.ret (.cst (.bl false))) .nil) .nil) (.cons (.ret (.blt .all (.cons (.lc [3] (.call c_fits (.cons (.idx (.var 0) (.bin .add (.var 3) (.cst (.int (1))))) (.cons (.idx (.var 2) (.var 3)) (.cons (.var 1) .nil)))) (.nm 3) (.rng (.blt .len (.cons (.var 2) .nil))) .nil) .nil))) .nil))))
/-- 2 6 ['code', 'letter', 'found', 'instruction', 'form', 'k'] -/
def B_named (g_FORMS : Nat) : Ss := (.cons (.setN 2 (.dct .nil)) (.cons (.forR (.nm 3) (.var 0) (.cons (.set 4 (.idx (.glo g_FORMS) (.idx (.var 3) (.cst (.int (0)))))) (.cons (.forr (.nm 5) (.rng (.blt .len (.cons (.var 4) .nil))) (.cons (.iff (.and (.v (.cmp .eq (.idx (.var 4) (.var 5)) (.var 1))) (.or (.v (.cmp .eq (.var 1) (.cst (.str y_r)))) (.v (.cmp .ne (.idx (.var 3) (.cst (.int (0)))) (.cst (.str y_ask)))))) (.cons (.put 2 (.idx (.var 3) (.bin .add (.var 5) (.cst (.int (1))))) (.cst (.bl true))) .nil) .nil) (.cons (.wip [5]) .nil))) (.cons (.wip [5]) (.cons (.wip [3, 4, 5]) .nil))))) (.cons (.wip [3, 4, 5]) (.cons (.ret (.blt .list (.cons (.var 2) .nil))) .nil))))
/-- 5 11 ['self', 'width', 'code', 'inputs', 'outputs', 'point', 'letters', 'row', 'most', 'good', 'x'] -/
def B_Piece_init (c_within c_valid c_one_of c_named g_MOST g_SMALL g_PLACES : Nat) : Ss := (.cons (.iff (.or (.not (.v (.call c_within (.cons (.var 1) (.cons (.cst (.int (3))) .nil))))) (.or (.v (.cmp .eq (.var 1) (.cst (.int (0))))) (.v (.cmp .gt (.blt .len (.cons (.var 2) .nil)) (.glo g_MOST))))) (.cons .never .nil) .nil) (.cons (.forr (.nm 5) (.rng (.blt .len (.cons (.var 2) .nil))) (.cons (.iff (.not (.v (.call c_valid (.cons (.idx (.var 2) (.var 5)) (.cons (.blt .len (.cons (.var 2) .nil)) .nil))))) (.cons .never .nil) .nil) (.cons (.wip [5]) .nil))) (.cons (.wip [5]) (.cons (.forr (.tp [7, 8]) (.val (.tup (.cons (.tup (.cons (.var 3) (.cons (.cst (.int (3))) .nil))) (.cons (.tup (.cons (.var 4) (.cons (.cst (.int (2))) .nil))) .nil)))) (.cons (.set 9 (.lcR [10] (.var 10) (.nm 10) (.var 7) (.cons (.v (.call c_one_of (.cons (.var 10) (.cons (.glo g_SMALL) .nil)))) .nil))) (.cons (.iff (.or (.v (.cmp .ne (.blt .len (.cons (.var 9) .nil)) (.blt .len (.cons (.var 7) .nil)))) (.or (.v (.cmp .ne (.slen [10] 10 (.var 9)) (.blt .len (.cons (.var 7) .nil)))) (.v (.cmp .gt (.blt .len (.cons (.var 7) .nil)) (.var 8))))) (.cons .never .nil) .nil) (.cons (.wip [7, 8, 9]) .nil)))) (.cons (.wip [7, 8, 9]) (.cons (.set 6 (.bin .add (.bin .add (.call c_named (.cons (.var 2) (.cons (.cst (.str y_r)) .nil))) (.blt .list (.cons (.var 3) .nil))) (.blt .list (.cons (.var 4) .nil)))) (.cons (.satt (.var 0) y_width (.var 1)) (.cons (.satt (.var 0) y_code (.blt .tuple (.cons (.var 2) .nil))) (.cons (.satt (.var 0) y_inputs (.blt .tuple (.cons (.var 3) .nil))) (.cons (.satt (.var 0) y_outputs (.blt .tuple (.cons (.var 4) .nil))) (.cons (.satt (.var 0) y_registers (.blt .tuple (.cons (.srt .str (.blt .list (.cons (.dc [10] (.var 10) (.cst (.bl true)) (.nm 10) (.val (.var 6)) .nil) .nil))) .nil))) (.cons (.satt (.var 0) y_cells (.blt .tuple (.cons (.srt .str (.call c_named (.cons (.var 2) (.cons (.cst (.str y_m)) .nil)))) .nil))) (.cons (.iff (.v (.cmp .gt (.bin .add (.blt .len (.cons (.att (.var 0) y_registers) .nil)) (.blt .len (.cons (.att (.var 0) y_cells) .nil))) (.idx (.glo g_PLACES) (.var 1)))) (.cons .never .nil) .nil) .nil)))))))))))))
/-- 1 1 ['_law_width'] -/
def B_law_letters : Ss := (.cons (.ret (.idx (.lst (.cons (.cst (.str y_)) (.cons (.cst (.str y_abcd)) (.cons (.cst (.str y_abc)) (.cons (.cst (.str y_ab)) .nil))))) (.var 0))) .nil)
/-- 0 1 ['_law_kinds'] -/
def B_law_every_kind : Ss := (.cons (.set 0 (.lst (.cons (.cst (.str y_put)) (.cons (.cst (.str y_step)) (.cons (.cst (.str y_vow)) (.cons (.cst (.str y_select)) (.cons (.cst (.str y_merge)) (.cons (.cst (.str y_firm)) (.cons (.cst (.str y_store)) (.cons (.cst (.str y_load)) (.cons (.cst (.str y_print)) (.cons (.cst (.str y_test)) (.cons (.cst (.str y_jump)) (.cons (.cst (.str y_ask)) .nil)))))))))))))) (.cons (.ret (.var 0)) .nil))
/-- 4 10 ['_law_draw', '_law_size', '_law_letters_here', '_law_kinds', '_law_signs', '_law_x', '_law_y', '_law_z', '_law_rest', '_law_rows'] -/
def B_law_row : Ss := (.cons (.set 4 (.lst (.cons (.cst (.str y__2b)) (.cons (.cst (.str y__2d)) (.cons (.cst (.str y__2a)) (.cons (.cst (.str y__26)) (.cons (.cst (.str y__3d)) (.cons (.cst (.str y__3c)) (.cons (.cst (.str y__2b_21)) (.cons (.cst (.str y__2d_21)) .nil)))))))))) (.cons (.set 5 (.idx (.var 2) (.bin .mod (.blt .int (.cons (.bin .fdiv (.var 0) (.cst (.int (12)))) .nil)) (.blt .len (.cons (.var 2) .nil))))) (.cons (.set 6 (.idx (.var 2) (.bin .mod (.blt .int (.cons (.bin .fdiv (.var 0) (.cst (.int (36)))) .nil)) (.blt .len (.cons (.var 2) .nil))))) (.cons (.set 7 (.idx (.var 2) (.bin .mod (.blt .int (.cons (.bin .fdiv (.var 0) (.cst (.int (108)))) .nil)) (.blt .len (.cons (.var 2) .nil))))) (.cons (.set 8 (.bin .mod (.blt .int (.cons (.bin .fdiv (.var 0) (.cst (.int (324)))) .nil)) (.cst (.int (72))))) (.cons (.setN 9 (.dct (.cons (.cst (.str y_put)) (.tup (.cons (.cst (.str y_put)) (.cons (.var 5) (.cons (.bin .mod (.blt .int (.cons (.var 8) .nil)) (.cst (.int (8)))) .nil)))) (.cons (.cst (.str y_step)) (.tup (.cons (.cst (.str y_step)) (.cons (.var 5) (.cons (.idx (.var 4) (.bin .mod (.blt .int (.cons (.var 8) .nil)) (.cst (.int (8))))) (.cons (.var 6) (.cons (.var 7) .nil)))))) .nil)))) (.cons (.put 9 (.cst (.str y_vow)) (.tup (.cons (.cst (.str y_step)) (.cons (.var 5) (.cons (.idx (.var 4) (.bin .add (.cst (.int (6))) (.bin .mod (.blt .int (.cons (.var 8) .nil)) (.cst (.int (2)))))) (.cons (.var 6) (.cons (.var 7) .nil))))))) (.cons (.put 9 (.cst (.str y_select)) (.tup (.cons (.cst (.str y_select)) (.cons (.var 5) (.cons (.var 6) (.cons (.var 7) (.cons (.idx (.var 2) (.bin .mod (.blt .int (.cons (.var 8) .nil)) (.blt .len (.cons (.var 2) .nil)))) .nil))))))) (.cons (.put 9 (.cst (.str y_merge)) (.tup (.cons (.cst (.str y_merge)) (.cons (.var 5) (.cons (.var 6) .nil))))) (.cons (.put 9 (.cst (.str y_firm)) (.tup (.cons (.cst (.str y_firm)) (.cons (.var 5) (.cons (.var 6) .nil))))) (.cons (.put 9 (.cst (.str y_store)) (.tup (.cons (.cst (.str y_store)) (.cons (.cst (.str y_M)) (.cons (.var 6) .nil))))) (.cons (.put 9 (.cst (.str y_load)) (.tup (.cons (.cst (.str y_load)) (.cons (.var 5) (.cons (.cst (.str y_M)) .nil))))) (.cons (.put 9 (.cst (.str y_print)) (.tup (.cons (.cst (.str y_print)) (.cons (.var 6) .nil)))) (.cons (.put 9 (.cst (.str y_test)) (.tup (.cons (.cst (.str y_test)) (.cons (.var 6) (.cons (.bin .mod (.blt .int (.cons (.var 8) .nil)) (.bin .add (.var 1) (.cst (.int (1))))) .nil))))) (.cons (.put 9 (.cst (.str y_jump)) (.tup (.cons (.cst (.str y_jump)) (.cons (.bin .mod (.blt .int (.cons (.var 8) .nil)) (.bin .add (.var 1) (.cst (.int (1))))) .nil)))) (.cons (.put 9 (.cst (.str y_ask)) (.tup (.cons (.cst (.str y_ask)) (.cons (.var 5) (.cons (.idx (.cst (.str y_HK)) (.bin .mod (.blt .int (.cons (.var 8) .nil)) (.cst (.int (2))))) (.cons (.var 6) .nil)))))) (.cons (.ret (.idx (.var 9) (.idx (.var 3) (.bin .mod (.bin .mod (.blt .int (.cons (.var 0) .nil)) (.cst (.int (12)))) (.blt .len (.cons (.var 3) .nil)))))) .nil)))))))))))))))))
/-- 5 6 ['_law_draws_here', '_law_at', '_law_size', '_law_letters_here', '_law_kinds', '_law_k'] -/
def B_law_code (c_law_row : Nat) : Ss := (.cons (.ret (.lc [5] (.call c_law_row (.cons (.idx (.var 0) (.bin .add (.var 1) (.var 5))) (.cons (.var 2) (.cons (.var 3) (.cons (.var 4) .nil))))) (.nm 5) (.rng (.var 2)) .nil)) .nil)
/-- 4 12 ['_law_width', '_law_code_here', '_law_inputs', '_law_outputs', '_law_small', '_law_names', '_law_cells', '_law_row_here', '_law_piece_here', '_law_x', '_law_m', '_law_part'] -/
def B_law_piece : Ss := (.cons (.set 4 (.cst (.str y_abcdefghijklmnopqrstuvwxyz))) (.cons (.set 5 (.bin .add (.blt .list (.cons (.var 2) .nil)) (.blt .list (.cons (.var 3) .nil)))) (.cons (.setN 6 (.lst .nil)) (.cons (.forr (.nm 7) (.val (.var 1)) (.cons (.set 5 (.bin .add (.var 5) (.lc [11] (.var 11) (.nm 11) (.val (.slc (.var 7) (.so (.cst (.int (1)))) .no)) (.cons (.v (.cmp .inn (.blt .str (.cons (.var 11) .nil)) (.var 4))) .nil)))) (.cons (.iff (.v (.cmp .eq (.idx (.var 7) (.cst (.int (0)))) (.cst (.str y_store)))) (.cons (.app 6 (.idx (.var 7) (.cst (.int (1))))) .nil) .nil) (.cons (.iff (.v (.cmp .eq (.idx (.var 7) (.cst (.int (0)))) (.cst (.str y_load)))) (.cons (.app 6 (.idx (.var 7) (.cst (.int (2))))) .nil) .nil) (.cons (.wip [7]) .nil))))) (.cons (.wip [7]) (.cons (.setN 8 (.dct (.cons (.cst (.str y_width)) (.var 0) (.cons (.cst (.str y_code)) (.blt .list (.cons (.var 1) .nil)) (.cons (.cst (.str y_inputs)) (.blt .list (.cons (.var 2) .nil)) (.cons (.cst (.str y_outputs)) (.blt .list (.cons (.var 3) .nil)) .nil)))))) (.cons (.put 8 (.cst (.str y_names)) (.lc [9] (.var 9) (.nm 9) (.val (.var 4)) (.cons (.v (.cmp .inn (.var 9) (.var 5))) .nil))) (.cons (.put 8 (.cst (.str y_cells)) (.lc [10] (.var 10) (.nm 10) (.val (.upp (.var 4))) (.cons (.v (.cmp .inn (.var 10) (.var 6))) .nil))) (.cons (.frz 8) (.cons (.ret (.var 8)) .nil))))))))))
end MP

set_option maxRecDepth 100000
set_option maxHeartbeats 4000000
/-! MP33: instructions and pieces, plain. -/
namespace MP
open PySem PySem.Spec PyProof.Rows L2 SrtO
inductive Pt where | r (c : Nat) | m (c : Nat) | n (k : Nat) | s (x : Str)
def Pt.d : Pt → D
  | .r c => sg c
  | .m c => sg c
  | .n k => .int (k : Int)
  | .s x => .str x
structure Ins where
  k : Nat
  ps : List Pt
def nmK : List Str := [y_put, y_step, y_select, y_merge, y_firm, y_store, y_load, y_print, y_test, y_jump, y_ask]
def fmK : List (List Nat) := [[114, 107], [114, 115, 114, 114], [114, 114, 114, 114], [114, 114], [114, 114], [109, 114], [114, 109], [114], [114, 112], [112], [114, 109, 114]]
def toS (l : List Nat) : Str := ⟨l.toArray⟩
def signK : List Str := [y__2b, y__2d, y__2a, y__26, y__3d, y__3c, y__2b_21, y__2d_21]
def smallC : List Nat := List.range' 97 26
def greatC : List Nat := List.range' 65 26
def smallS : Str := y_abcdefghijklmnopqrstuvwxyz
def greatS : Str := ⟨#[65, 66, 67, 68, 69, 70, 71, 72, 73, 74, 75, 76, 77, 78, 79, 80, 81, 82, 83, 84, 85, 86, 87, 88, 89, 90]⟩
def formsD : D := .dct ((nmK.zip fmK).map fun p => (.str p.1, .str (toS p.2)))
def signsD : D := .tup (signK.map D.str)
def Ins.d (i : Ins) : D := .tup (.str (nmK.getD i.k y_put) :: i.ps.map Pt.d)
def fitP (n : Nat) : Pt → Nat → Bool
  | .r c, l => l == 114 && decide (c ∈ smallC)
  | .m c, l => l == 109 && decide (c ∈ greatC)
  | .n k, l => (l == 107 && decide (k ≤ 7)) || (l == 112 && decide (k ≤ n))
  | .s x, l => l == 115 && decide (x ∈ signK)
def fitPs (n : Nat) : List Pt → List Nat → Bool
  | [], [] => true
  | p :: ps, l :: ls => fitP n p l && fitPs n ps ls
  | _, _ => false
def Ins.fm (i : Ins) : List Nat := fmK.getD i.k []
def Ins.ok (n : Nat) (i : Ins) : Prop := i.k < 11 ∧ fitPs n i.ps i.fm = true
def Pt.r? : Pt → Option Nat
  | .r c => some c
  | _ => none
def Pt.m? : Pt → Option Nat
  | .m c => some c
  | _ => none
/-- the registers it names; its cell -/
def Ins.rs (i : Ins) : List Nat := i.ps.filterMap Pt.r?
def Ins.ms (i : Ins) : List Nat := if i.k = 10 then [] else i.ps.filterMap Pt.m?
theorem smallC_lt {c : Nat} (h : c ∈ smallC) : c < 1114112 := by have := List.mem_range'_1.mp h; omega
theorem greatC_lt {c : Nat} (h : c ∈ greatC) : c < 1114112 := by have := List.mem_range'_1.mp h; omega
theorem smallS_mem {c : Nat} : c ∈ smallS.cps.toList ↔ c ∈ smallC := by
  have : smallS.cps.toList = smallC := rfl
  rw [this]
theorem greatS_mem {c : Nat} : c ∈ greatS.cps.toList ↔ c ∈ greatC := by
  have : greatS.cps.toList = greatC := rfl
  rw [this]
theorem fitPs_len {n : Nat} : ∀ {ps : List Pt} {ls : List Nat}, fitPs n ps ls = true → ps.length = ls.length
  | [], [], _ => rfl
  | p :: ps, l :: ls, h => by
    have h2 : fitPs n ps ls = true := by
      have : (fitP n p l && fitPs n ps ls) = true := h
      exact (Bool.and_eq_true_iff.mp this).2
    rw [List.length_cons, List.length_cons, fitPs_len h2]
  | [], _ :: _, h => by cases h
  | _ :: _, [], h => by cases h
theorem fitPs_get {n : Nat} : ∀ {ps : List Pt} {ls : List Nat}, fitPs n ps ls = true → ∀ (i : Nat) (h1 : i < ps.length) (h2 : i < ls.length), fitP n ps[i] ls[i] = true
  | p :: ps, l :: ls, h, i, h1, h2 => by
    have h3 := Bool.and_eq_true_iff.mp (show (fitP n p l && fitPs n ps ls) = true from h)
    cases i with
    | zero => exact h3.1
    | succ i => exact fitPs_get h3.2 i (by simpa using h1) (by simpa using h2)
  | [], _, _, _, h1, _ => by cases h1
  | _ :: _, [], _, _, _, h2 => by cases h2
theorem nm_forms {k : Nat} (h : k < 11) : inD (.str (nmK.getD k y_put)) formsD = some true ∧ idxD formsD (.str (nmK.getD k y_put)) = some (.str (toS (fmK.getD k []))) := by
  have : ∀ k < 11, inD (.str (nmK.getD k y_put)) formsD = some true ∧ idxD formsD (.str (nmK.getD k y_put)) = some (.str (toS (fmK.getD k []))) := by
    intro k h
    match k, h with
    | 0, _ | 1, _ | 2, _ | 3, _ | 4, _ | 5, _ | 6, _ | 7, _ | 8, _ | 9, _ | 10, _ => exact ⟨by kernel_rfl, by kernel_rfl⟩
  exact this k h
theorem nm_inj {k j : Nat} (h : k < 11) (hj : j < 11) : decide ((nmK.getD k y_put) = nmK.getD j y_put) = decide (k = j) := by
  have : ∀ k < 11, ∀ j < 11, decide ((nmK.getD k y_put) = nmK.getD j y_put) = decide (k = j) := by decide
  exact this k h j hj
theorem fm_len {k : Nat} (h : k < 11) : (fmK.getD k []).length ≤ 4 := by
  have : ∀ k < 11, (fmK.getD k []).length ≤ 4 := by decide
  exact this k h
end MP

set_option maxRecDepth 100000
set_option maxHeartbeats 4000000
/-! MP34: what the defs about pieces compute. -/
namespace MP
open PySem PySem.Spec PyProof.Rows L2 SrtO
/-- where the defs about pieces stand in a text -/
structure PcI where
  one : Nat
  within : Nat
  fits : Nat
  valid : Nat
  named : Nat
  init : Nat
  gS : Nat
  gG : Nat
  gI : Nat
  gF : Nat
  gM : Nat
  gP : Nat
structure PcF (tb : Tb) (F : Nat → Option Fd) (p : PcI) : Prop where
  one : F p.one = some ⟨2, 2, B_one_of, none, false⟩
  within : F p.within = some ⟨2, 2, B_within, none, false⟩
  fits : F p.fits = some ⟨3, 3, B_fits p.one p.within p.gS p.gG p.gI, none, false⟩
  valid : F p.valid = some ⟨2, 4, B_valid p.fits p.gF, none, false⟩
  named : F p.named = some ⟨2, 6, B_named p.gF, none, false⟩
  init : F p.init = some ⟨5, 11, B_Piece_init p.within p.valid p.one p.named p.gM p.gS p.gP, none, false⟩
  gS : tb.glo p.gS = .str smallS
  gG : tb.glo p.gG = .str greatS
  gI : tb.glo p.gI = signsD
  gF : tb.glo p.gF = formsD
  gM : tb.glo p.gM = .int 24
  gP : tb.glo p.gP = .tup [.int 0, .int 6, .int 4, .int 3]
  dOne : ∀ n, tb.dfl p.one n = []
  dWithin : ∀ n, tb.dfl p.within n = []
  dFits : ∀ n, tb.dfl p.fits n = []
  dValid : ∀ n, tb.dfl p.valid n = []
  dNamed : ∀ n, tb.dfl p.named n = []
section
variable {tb : Tb} {F : Nat → Option Fd} {p : PcI}
theorem view_signs {h : MH} : view signsD h = some signsD := rfl
theorem view_forms {h : MH} : view formsD h = some formsD := rfl
theorem evT_bl {Φ : Nat → List D → MH → R D} {m : M} {e : Ev} {h h' : MH} {t : Bool} (hm : opd m (ev tb Φ m e h) e h = (ev tb Φ m e h).bind fun d h => .ok (.d d) h) (q : ev tb Φ m e h = .ok (.bl t) h') : evT tb Φ (.v m) e h = .ok t h' := by
  simp only [evT]
  rw [hm, q]
  rfl
theorem one_ok (P : PcF tb F p) (k : Nat) (h : MH) (c : Nat) (x : Str) : callN tb F (k + 1) p.one [sg c, .str x] h = .ok (.bl (decide (c ∈ x.cps.toList))) h := by
  refine callN_of P.one rfl rfl (run_of rfl rfl rfl ?_)
  have e1 : isD tb (sg c) .str = some true := rfl
  have e2 : bltD .len [sg c] = some (.int 1) := rfl
  simp only [B_one_of, MP.execs, MP.exec, ev, evs, evOs, opd, startE, List.map_cons, List.map_nil, List.length_cons, List.length_nil, Nat.reduceAdd, Nat.reduceSub, List.replicate, List.append_nil, List.getElem?_cons_zero, List.getElem?_cons_succ, R.bind, vo, vos, view_sg, view_str, e1, e2, R.of, Option.map_some, R.st, cmpD, eqO, sg_inS, view_int, fit, eqD, Bool.and_self, if_true, decide_true]
theorem within_ok (P : PcF tb F p) (k : Nat) (h : MH) (a : Nat) (b : Nat) (hab : a ≤ b) : callN tb F (k + 1) p.within [.int (a : Int), .int (b : Int)] h = .ok (.bl true) h := by
  refine callN_of P.within rfl rfl (run_of rfl rfl rfl ?_)
  have e1 : isD tb (.int (a : Int)) .int = some true := rfl
  have e2 : isD tb (.int (a : Int)) .bool = some false := rfl
  have c1 : (0 : Int) ≤ (a : Int) := by omega
  have c2 : (a : Int) ≤ (b : Int) := by omega
  simp only [B_within, MP.execs, MP.exec, ev, evs, evOs, opd, startE, List.map_cons, List.map_nil, List.length_cons, List.length_nil, Nat.reduceAdd, Nat.reduceSub, List.replicate, List.append_nil, List.getElem?_cons_zero, List.getElem?_cons_succ, R.bind, vo, vos, view_int, e1, e2, R.of, Option.map_some, R.st, cmpD, Bool.not_false, c1, c2, decide_true]
theorem fits_ok (P : PcF tb F p) (k : Nat) (h : MH) (n : Nat) (q : Pt) (l : Nat) (hf : fitP n q l = true) : callN tb F (k + 2) p.fits [q.d, sg l, .int (n : Int)] h = .ok (.bl true) h := by
  refine callN_of P.fits rfl rfl (run_of rfl (e := [.val q.d, .val (sg l), .val (.int (n : Int))]) rfl rfl ?_)
  have eq : ∀ x : Nat, ∀ s : Str, s = ⟨#[x]⟩ → evT tb (callN tb F (k + 1)) (.v (.cmp .eq (.var 1) (.cst (.str s)))) [.val q.d, .val (sg l), .val (.int (n : Int))] h = .ok (decide (l = x)) h := by
    rintro x s rfl
    have : cmpD .eq (sg l) (.str ⟨#[x]⟩) = some (decide (l = x)) := by
      show some (decide ((⟨#[l]⟩ : PySem.Str) = ⟨#[x]⟩)) = _
      simp only [str1_inj]
    refine evT_bl rfl ?_
    simp only [ev, opd, R.bind, List.getElem?_cons_zero, List.getElem?_cons_succ, vo, view_sg, view_str, this, Option.map_some, R.of]
  have er := eq 114 y_r rfl
  have em := eq 109 y_m rfl
  have ek := eq 107 y_k rfl
  have ep := eq 112 y_p rfl
  have nx : ∀ (t : T) (a : Ss) (r : Ss), evT tb (callN tb F (k + 1)) t [.val q.d, .val (sg l), .val (.int (n : Int))] h = .ok false h → MP.execs tb (callN tb F (k + 1)) (.cons (.iff t a .nil) r) [.val q.d, .val (sg l), .val (.int (n : Int))] h = MP.execs tb (callN tb F (k + 1)) r [.val q.d, .val (sg l), .val (.int (n : Int))] h := fun t a r z => execs_nx (by rw [ex_iff z]; rfl)
  have hit : ∀ (t : T) (m : M) (r : Ss), evT tb (callN tb F (k + 1)) t [.val q.d, .val (sg l), .val (.int (n : Int))] h = .ok true h → ev tb (callN tb F (k + 1)) m [.val q.d, .val (sg l), .val (.int (n : Int))] h = .ok (.bl true) h → MP.execs tb (callN tb F (k + 1)) (.cons (.iff t (.cons (.ret m) .nil) .nil) r) [.val q.d, .val (sg l), .val (.int (n : Int))] h = .rt (.bl true) h := fun t m r z w => execs_rt (by
    rw [ex_iff z, if_pos rfl]
    exact execs_rt (by simp only [MP.exec, w, R.st]))
  unfold B_fits
  cases q with
  | r c =>
    have hh := Bool.and_eq_true_iff.mp (show (l == 114 && decide (c ∈ smallC)) = true from hf)
    have hl : l = 114 := by simpa using hh.1
    have hc : c ∈ smallC := of_decide_eq_true hh.2
    subst hl
    refine hit _ _ _ (er.trans (by simp)) ?_
    simp only [ev, evs, R.bind, List.getElem?_cons_zero, P.gS, P.dOne, List.append_nil, Pt.d]
    rw [one_ok P k, decide_eq_true (smallS_mem.mpr hc)]
  | m c =>
    have hh := Bool.and_eq_true_iff.mp (show (l == 109 && decide (c ∈ greatC)) = true from hf)
    have hl : l = 109 := by simpa using hh.1
    have hc : c ∈ greatC := of_decide_eq_true hh.2
    subst hl
    rw [nx _ _ _ (er.trans (by simp))]
    refine hit _ _ _ (em.trans (by simp)) ?_
    simp only [ev, evs, R.bind, List.getElem?_cons_zero, P.gG, P.dOne, List.append_nil, Pt.d]
    rw [one_ok P k, decide_eq_true (greatS_mem.mpr hc)]
  | n j =>
    have hh : (l = 107 ∧ j ≤ 7) ∨ (l = 112 ∧ j ≤ n) := by
      have : ((l == 107 && decide (j ≤ 7)) || (l == 112 && decide (j ≤ n))) = true := hf
      simpa using this
    rcases hh with ⟨rfl, hj⟩ | ⟨rfl, hj⟩
    · rw [nx _ _ _ (er.trans (by simp)), nx _ _ _ (em.trans (by simp))]
      refine hit _ _ _ (ek.trans (by simp)) ?_
      simp only [ev, evs, R.bind, List.getElem?_cons_zero, P.dWithin, List.append_nil, Pt.d]
      exact within_ok P k h j 7 hj
    · rw [nx _ _ _ (er.trans (by simp)), nx _ _ _ (em.trans (by simp)), nx _ _ _ (ek.trans (by simp))]
      refine hit _ _ _ (ep.trans (by simp)) ?_
      simp only [ev, evs, R.bind, List.getElem?_cons_zero, List.getElem?_cons_succ, P.dWithin, List.append_nil, Pt.d]
      exact within_ok P k h j n hj
  | s x =>
    have hh := Bool.and_eq_true_iff.mp (show (l == 115 && decide (x ∈ signK)) = true from hf)
    have hl : l = 115 := by simpa using hh.1
    have hc : x ∈ signK := of_decide_eq_true hh.2
    subst hl
    rw [nx _ _ _ (er.trans (by simp)), nx _ _ _ (em.trans (by simp)), nx _ _ _ (ek.trans (by simp)), nx _ _ _ (ep.trans (by simp))]
    refine execs_rt ?_
    have i1 : inD (.str x) signsD = some true := by
      have : ∀ x ∈ signK, inD (.str x) signsD = some true := by
        intro x hx
        simp only [signK, List.mem_cons, List.mem_nil_iff, or_false] at hx
        rcases hx with rfl | rfl | rfl | rfl | rfl | rfl | rfl | rfl <;> kernel_rfl
      exact this x hc
    have e1 : isD tb (.str x) .str = some true := rfl
    simp only [MP.exec, ev, opd, R.bind, List.getElem?_cons_zero, vo, view_str, view_signs, e1, Pt.d, Option.map_some, R.of, P.gI, cmpD, i1, R.st]
end
end MP

set_option maxRecDepth 100000
set_option maxHeartbeats 4000000
/-! MP35: valid, named. -/
namespace MP
open PySem PySem.Spec PyProof.Rows L2 SrtO
section
variable {tb : Tb} {Φ : Nat → List D → MH → R D} {F : Nat → Option Fd} {p : PcI}
theorem view_ins {i : Ins} {h : MH} : view i.d h = some i.d := rfl
theorem ins_len (i : Ins) : bltD .len [i.d] = some (.int ((i.ps.length + 1 : Nat) : Int)) := by
  show some (D.int ((_ :: i.ps.map Pt.d).length : Int)) = _
  rw [List.length_cons, List.length_map]
theorem ins_0 (i : Ins) : idxD i.d (.int 0) = some (.str (nmK.getD i.k y_put)) := by
  show L2.atI (_ :: i.ps.map Pt.d) ((0 : Nat) : Int) = _
  rw [atI_nat (by simp)]; rfl
theorem ins_s (i : Ins) {k : Nat} (hk : k < i.ps.length) : idxD i.d (.int ((k : Int) + 1)) = some (i.ps[k]).d := by
  show L2.atI (_ :: i.ps.map Pt.d) ((k : Int) + 1) = _
  rw [show (k : Int) + 1 = ((k + 1 : Nat) : Int) by omega, atI_nat (by simpa using hk), List.getElem?_cons_succ, List.getElem?_map, List.getElem?_eq_getElem hk]; rfl
theorem toS_len {l : List Nat} (h : l.length ≤ lim) : bltD .len [.str (toS l)] = some (.int (l.length : Int)) := by
  have e : (toS l).length = l.length := rfl
  show (if (toS l).length ≤ lim then some (D.int ((toS l).length : Int)) else none) = _
  rw [e, if_pos h]
theorem toS_idx {l : List Nat} (h : l.length ≤ lim) {k : Nat} (hk : k < l.length) : idxD (.str (toS l)) (.int (k : Int)) = some (sg l[k]) := sgS_idx (x := toS l) hk h
theorem allBl_true : ∀ n : Nat, allBl ((List.range n).map fun _ => D.bl true) = some true := by
  intro n
  have : ∀ l : List Nat, allBl (l.map fun _ => D.bl true) = some true := by
    intro l
    induction l with
    | nil => rfl
    | cons a l ih => show (allBl (l.map fun _ => D.bl true)).map (true && ·) = _; rw [ih]; rfl
  exact this _
theorem add1 (k : Nat) : binD .add (.int (k : Int)) (.int 1) = some (.int ((k : Int) + 1)) := rfl
theorem cD_in (x y : D) : cmpD .inn x y = inD x y := by cases x <;> cases y <;> rfl
theorem cD_nin (x y : D) : cmpD .nin x y = (inD x y).map (!·) := by cases x <;> cases y <;> rfl
theorem cD_eqs (x y : Str) : cmpD .eq (.str x) (.str y) = some (decide (x = y)) := rfl
theorem cD_nes (x y : Str) : cmpD .ne (.str x) (.str y) = some (!decide (x = y)) := rfl
theorem cD_eqi (x y : Int) : cmpD .eq (.int x) (.int y) = some (decide (x = y)) := rfl
theorem cD_nei (x y : Int) : cmpD .ne (.int x) (.int y) = some (!decide (x = y)) := rfl
theorem cD_gti (x y : Int) : cmpD .gt (.int x) (.int y) = some (decide (y < x)) := rfl
theorem cD_lti (x y : Int) : cmpD .lt (.int x) (.int y) = some (decide (x < y)) := rfl
theorem cD_lei (x y : Int) : cmpD .le (.int x) (.int y) = some (decide (x ≤ y)) := rfl
theorem cD_gei (x y : Int) : cmpD .ge (.int x) (.int y) = some (decide (y ≤ x)) := rfl
theorem cD_lts (x y : Str) : cmpD .lt (.str x) (.str y) = some (decide (x.cps.toList < y.cps.toList)) := rfl
theorem cD_gts (x y : Str) : cmpD .gt (.str x) (.str y) = some (decide (y.cps.toList < x.cps.toList)) := rfl
theorem valid_ok (P : PcF tb F p) (k : Nat) (h : MH) (n : Nat) (i : Ins) (hi : i.ok n) : callN tb F (k + 3) p.valid [i.d, .int (n : Int)] h = .ok (.bl true) h := by
  have hl := fitPs_len hi.2
  have hf4 : i.fm.length ≤ 4 := fm_len hi.1
  have hlim : i.fm.length ≤ lim := Nat.le_trans hf4 (by decide)
  obtain ⟨f1, f2⟩ := nm_forms hi.1
  have V : ∀ s2 s3 : Slot, Oc tb (callN tb F (k + 2)) (.var 0) [.val i.d, .val (.int (n : Int)), s2, s3] h i.d h := fun s2 s3 => Ov (E_var rfl) rfl
  have N0 : ∀ s2 s3 : Slot, ev tb (callN tb F (k + 2)) (.idx (.var 0) (.cst (.int (0)))) [.val i.d, .val (.int (n : Int)), s2, s3] h = .ok (.str (nmK.getD i.k y_put)) h := fun s2 s3 => E_idx (V _ _) E_cst (ins_0 i)
  refine callN_of P.valid rfl rfl (run_of (b := B_valid p.fits p.gF) rfl (e := [.val i.d, .val (.int (n : Int)), .no, .no]) rfl rfl ?_)
  unfold B_valid
  rw [execs_nx (X_skip (T_or0 (T_v (E_cmp (Ov (E_blt (V _ _) (ins_len i)) rfl) (Ov E_cst rfl) ((cD_eqi _ _).trans (congrArg some (decide_eq_false (by omega)))))) (T_v (E_cmp (Ov (N0 _ _) rfl) (Ov (E_glo P.gF) rfl) ((cD_nin _ _).trans (by rw [f1]; rfl))))))]
  rw [execs_nx (X_set (E_idx (Ov (E_glo P.gF) view_forms) (N0 _ _) f2))]
  have Vf : ∀ s3 : Slot, Oc tb (callN tb F (k + 2)) (.var 2) [.val i.d, .val (.int (n : Int)), .val (.str (toS i.fm)), s3] h (.str (toS i.fm)) h := fun s3 => Ov (E_var rfl) rfl
  show MP.execs tb _ _ [.val i.d, .val (.int (n : Int)), .val (.str (toS i.fm)), .no] h = _
  rw [execs_nx (X_skip (T_v (E_cmp (Ov (E_blt (V _ _) (ins_len i)) rfl) (Ov (E_bin (Ov (E_blt (Vf _) (toS_len hlim)) rfl) (Ov E_cst rfl) (add1 _)) rfl) ((cD_nei _ _).trans (congrArg (fun b => some !b) (decide_eq_true (by omega)))))))]
  refine execs_rt (X_ret (E_blt (Ov (ev_lc (P := fun _ => true) (G := fun _ => D.bl true) (mk := fun (j : Nat) => D.int (j : Int)) rfl rfl (I_rng (E_blt (Vf _) (toS_len hlim)) (by omega)) (by simpa using hlim) fun j hj => ?_) rfl) (by
    rw [List.filter_eq_self.mpr fun _ _ => rfl]
    show (allBl ((List.range i.fm.length).map fun _ => D.bl true)).map D.bl = _
    rw [allBl_true]; rfl)))
  have hj : j < i.fm.length := List.mem_range.mp hj
  exact ⟨[.val i.d, .val (.int (n : Int)), .val (.str (toS i.fm)), .val (.int (j : Int))], rfl, rfl, fun _ =>
    E_call (E_cons (E_idx (V _ _) (E_bin (Ov (E_var rfl) rfl) (Ov E_cst rfl) (add1 _)) (ins_s i (by omega))) (E_cons (E_idx (Vf _) (E_var rfl) (toS_idx hlim hj)) (E_cons (E_var rfl) E_nil))) P.dFits (fits_ok P k h n _ _ (fitPs_get hi.2 j (by omega) hj))⟩
/-- a part with the form of the letter -/
def Pt.of (L : Nat) : Pt → Option Nat
  | .r c => if L = 114 then some c else none
  | .m c => if L = 109 then some c else none
  | _ => none
def Ins.sel (L : Nat) (i : Ins) : List Nat := if L = 114 ∨ i.k ≠ 10 then i.ps.filterMap (Pt.of L) else []
theorem fit_of {n L l : Nat} {q : Pt} (h : fitP n q l = true) (hL : L = 114 ∨ L = 109) : (l = L → ∃ c, q.of L = some c ∧ q.d = sg c) ∧ (l ≠ L → q.of L = none) := by
  cases q with
  | r c =>
    have hl : l = 114 := by simpa using (Bool.and_eq_true_iff.mp (show (l == 114 && decide (c ∈ smallC)) = true from h)).1
    subst hl
    exact ⟨fun e => ⟨c, by simp [Pt.of, ← e], rfl⟩, fun e => if_neg fun z => e z.symm⟩
  | m c =>
    have hl : l = 109 := by simpa using (Bool.and_eq_true_iff.mp (show (l == 109 && decide (c ∈ greatC)) = true from h)).1
    subst hl
    exact ⟨fun e => ⟨c, by simp [Pt.of, ← e], rfl⟩, fun e => if_neg fun z => e z.symm⟩
  | n k =>
    have hl : l = 107 ∨ l = 112 := by
      have : ((l == 107 && decide (k ≤ 7)) || (l == 112 && decide (k ≤ n))) = true := h
      simp only [Bool.or_eq_true, Bool.and_eq_true, beq_iff_eq] at this
      rcases this with h | h
      · exact .inl h.1
      · exact .inr h.1
    exact ⟨fun e => by omega, fun _ => rfl⟩
  | s x =>
    have hl : l = 115 := by simpa using (Bool.and_eq_true_iff.mp (show (l == 115 && decide (x ∈ signK)) = true from h)).1
    exact ⟨fun e => by omega, fun _ => rfl⟩
theorem ddF_len : ∀ {l acc : List Nat}, (ddF acc l).length ≤ acc.length + l.length
  | [], acc => by simp [ddF]
  | b :: r, acc => by
    unfold ddF
    split
    · have := ddF_len (l := r) (acc := acc); rw [List.length_cons]; omega
    · have := ddF_len (l := r) (acc := acc ++ [b]); rw [List.length_append] at this; simp only [List.length_cons, List.length_nil] at this ⊢; omega
theorem filterMap_len {α β : Type} (f : α → Option β) (l : List α) : (l.filterMap f).length ≤ l.length := List.length_filterMap_le f l
def nmE (x : D) (L : Nat) (acc : List Nat) : Ev := [.val x, .val (sg L), .own (.dct (acc.map bT)), .no, .no, .no]
def nmE2 (x : D) (L : Nat) (i : Ins) (acc : List Nat) : Ev := [.val x, .val (sg L), .own (.dct (acc.map bT)), .val i.d, .val (.str (toS i.fm)), .no]
def nmB : Ss := (.cons (.iff (.and (.v (.cmp .eq (.idx (.var 4) (.var 5)) (.var 1))) (.or (.v (.cmp .eq (.var 1) (.cst (.str y_r)))) (.v (.cmp .ne (.idx (.var 3) (.cst (.int (0)))) (.cst (.str y_ask)))))) (.cons (.put 2 (.idx (.var 3) (.bin .add (.var 5) (.cst (.int (1))))) (.cst (.bl true))) .nil) .nil) (.cons (.wip [5]) .nil))
theorem named_in {Φ : Nat → List D → MH → R D} (h : MH) {n : Nat} {i : Ins} (hi : i.ok n) {L : Nat} (hL : L = 114 ∨ L = 109) (x : D) (acc : List Nat) (ha : acc.length + 4 < lim) :
    MP.exec tb Φ (.forr (.nm 5) (.rng (.blt .len (.cons (.var 4) .nil))) nmB) (nmE2 x L i acc) h = .nx (nmE2 x L i (ddF acc (i.sel L))) h := by
  have hl := fitPs_len hi.2
  have hf4 : i.fm.length ≤ 4 := fm_len hi.1
  have hlim : i.fm.length ≤ lim := Nat.le_trans hf4 (by decide)
  have vf : ∀ s2 s5 : Slot, Oc tb Φ (.var 4) [.val x, .val (sg L), s2, .val i.d, .val (.str (toS i.fm)), s5] h (.str (toS i.fm)) h := fun _ _ => Ov (E_var rfl) rfl
  have vi : ∀ s2 s5 : Slot, Oc tb Φ (.var 3) [.val x, .val (sg L), s2, .val i.d, .val (.str (toS i.fm)), s5] h i.d h := fun _ _ => Ov (E_var rfl) rfl
  have vl : ∀ s2 s5 : Slot, Oc tb Φ (.var 1) [.val x, .val (sg L), s2, .val i.d, .val (.str (toS i.fm)), s5] h (sg L) h := fun _ _ => Ov (E_var rfl) rfl
  refine (X_for (ds := (List.range i.fm.length).map fun (j : Nat) => D.int (j : Int)) rfl (I_rng (E_blt (vf _ _) (toS_len hlim)) (by omega))).trans ?_
  let sl (j : Nat) : List Nat := if L = 114 ∨ i.k ≠ 10 then (i.ps.take j).filterMap (Pt.of L) else []
  obtain ⟨e', h', q, q2⟩ := loopF_inv (f := fun d e h => (match bindP (.nm 5) d e with
    | some e => MP.execs tb Φ nmB e h
    | none => .no)) (ds := (List.range i.fm.length).map fun (j : Nat) => D.int (j : Int)) (h := h) (P := fun j e h' => e = nmE2 x L i (ddF acc (sl j)) ∧ h = h') (e := nmE2 x L i acc) (fun j d e h' hg ⟨he, hh⟩ => by
      subst he hh
      rw [List.getElem?_map] at hg
      have hj : j < i.fm.length := by
        rcases Nat.lt_or_ge j i.fm.length with z | z
        · exact z
        · rw [List.getElem?_eq_none (by simpa using z)] at hg; cases hg
      have hd : d = .int (j : Int) := by
        rw [List.getElem?_eq_getElem (by simpa using hj)] at hg
        simpa using hg.symm
      subst hd
      refine ⟨_, _, ?_, rfl, rfl⟩
      have hfit := fitPs_get hi.2 j (by omega) hj
      obtain ⟨o1, o2⟩ := fit_of hfit hL
      have slen : (sl j).length ≤ 4 := by
        show (if L = 114 ∨ i.k ≠ 10 then (i.ps.take j).filterMap (Pt.of L) else []).length ≤ 4
        split
        · have := filterMap_len (Pt.of L) (i.ps.take j); rw [List.length_take] at this; omega
        · simp
      have tk : i.ps.take (j + 1) = i.ps.take j ++ [i.ps[j]'(by omega)] := (List.take_append_getElem (by omega)).symm
      have c1 : cmpD .eq (sg i.fm[j]) (sg L) = some (decide (i.fm[j] = L)) := by
        show some (decide ((⟨#[i.fm[j]]⟩ : PySem.Str) = ⟨#[L]⟩)) = _
        simp only [str1_inj]
      have c2 : cmpD .eq (sg L) (.str y_r) = some (decide (L = 114)) := by
        show some (decide ((⟨#[L]⟩ : PySem.Str) = ⟨#[114]⟩)) = _
        simp only [str1_inj]
      have c3 : cmpD .ne (.str (nmK.getD i.k y_put)) (.str y_ask) = some (!decide (i.k = 10)) := (cD_nes _ _).trans (congrArg (fun b => some !b) (nm_inj hi.1 (j := 10) (by decide)))
      show MP.execs tb Φ nmB [.val x, .val (sg L), .own (.dct ((ddF acc (sl j)).map bT)), .val i.d, .val (.str (toS i.fm)), .val (.int (j : Int))] h = .nx (nmE2 x L i (ddF acc (sl (j + 1)))) h
      have t1 : evT tb Φ (.v (.cmp .eq (.idx (.var 4) (.var 5)) (.var 1))) [.val x, .val (sg L), .own (.dct ((ddF acc (sl j)).map bT)), .val i.d, .val (.str (toS i.fm)), .val (.int (j : Int))] h = .ok (decide (i.fm[j] = L)) h := T_v (E_cmp (Ov (E_idx (vf _ _) (E_var rfl) (toS_idx hlim hj)) rfl) (vl _ _) c1)
      have t2 : evT tb Φ (.or (.v (.cmp .eq (.var 1) (.cst (.str y_r)))) (.v (.cmp .ne (.idx (.var 3) (.cst (.int (0)))) (.cst (.str y_ask))))) [.val x, .val (sg L), .own (.dct ((ddF acc (sl j)).map bT)), .val i.d, .val (.str (toS i.fm)), .val (.int (j : Int))] h = .ok (decide (L = 114 ∨ i.k ≠ 10)) h := by
        have a1 := T_v (E_cmp (vl (.own (.dct ((ddF acc (sl j)).map bT))) (.val (.int (j : Int)))) (Ov (E_cst (x := .str y_r)) rfl) c2)
        by_cases e : L = 114
        · rw [decide_eq_true e] at a1
          rw [decide_eq_true (Or.inl e)]
          exact T_or1 a1
        · rw [decide_eq_false e] at a1
          refine (T_or0 a1 (T_v (E_cmp (Ov (E_idx (vi _ _) E_cst (ins_0 i)) rfl) (Ov E_cst rfl) c3))).trans ?_
          simp [e]
      by_cases e1 : i.fm[j] = L
      · obtain ⟨c, k1, k2⟩ := o1 e1
        rw [decide_eq_true e1] at t1
        by_cases e2 : L = 114 ∨ i.k ≠ 10
        · rw [decide_eq_true e2] at t2
          have hlen : (ddF acc (sl j)).length < lim := by have := ddF_len (l := sl j) (acc := acc); omega
          have es : sl (j + 1) = sl j ++ [c] := by
            show (if L = 114 ∨ i.k ≠ 10 then (i.ps.take (j + 1)).filterMap (Pt.of L) else []) = (if L = 114 ∨ i.k ≠ 10 then (i.ps.take j).filterMap (Pt.of L) else []) ++ [c]
            rw [if_pos e2, if_pos e2, tk, List.filterMap_append]
            simp [k1]
          have ed : ddF acc (sl (j + 1)) = if c ∈ ddF acc (sl j) then ddF acc (sl j) else ddF acc (sl j) ++ [c] := by
            rw [es, ddF_append]; rfl
          rw [show nmB = .cons _ (.cons (.wip [5]) .nil) from rfl, execs_nx ((X_if (T_and1 t1 t2)).trans (execs_one (X_put (u := .dct ((ddF acc (sl j)).map bT)) E_cst (E_idx (vi _ _) (E_bin (Ov (E_var rfl) rfl) (Ov E_cst rfl) (add1 _)) ((ins_s i (by omega)).trans (congrArg some k2))) rfl (setD_bT hlen)))), ← ed]
          rfl
        · rw [decide_eq_false e2] at t2
          have es : sl (j + 1) = sl j := by
            show (if L = 114 ∨ i.k ≠ 10 then (i.ps.take (j + 1)).filterMap (Pt.of L) else []) = (if L = 114 ∨ i.k ≠ 10 then (i.ps.take j).filterMap (Pt.of L) else [])
            rw [if_neg e2, if_neg e2]
          rw [es, show nmB = .cons _ (.cons (.wip [5]) .nil) from rfl, execs_nx (X_skip (T_and1 t1 t2))]
          rfl
      · rw [decide_eq_false e1] at t1
        have es : sl (j + 1) = sl j := by
          show (if L = 114 ∨ i.k ≠ 10 then (i.ps.take (j + 1)).filterMap (Pt.of L) else []) = (if L = 114 ∨ i.k ≠ 10 then (i.ps.take j).filterMap (Pt.of L) else [])
          rw [tk, List.filterMap_append]
          simp [o2 e1]
        rw [es, show nmB = .cons _ (.cons (.wip [5]) .nil) from rfl, execs_nx (X_skip (T_and0 t1))]
        rfl) ⟨by
          have : sl 0 = [] := by show (if L = 114 ∨ i.k ≠ 10 then (i.ps.take 0).filterMap (Pt.of L) else []) = []; simp
          rw [this]; rfl, rfl⟩
  refine q.trans ?_
  rw [q2.1, ← q2.2]
  have : sl ((List.range i.fm.length).map fun (j : Nat) => D.int (j : Int)).length = i.sel L := by
    show (if L = 114 ∨ i.k ≠ 10 then (i.ps.take _).filterMap (Pt.of L) else []) = (if L = 114 ∨ i.k ≠ 10 then i.ps.filterMap (Pt.of L) else [])
    rw [List.length_map, List.length_range, ← hl, List.take_length]
  rw [this]
theorem foldl_ddF (L : Nat) : ∀ (c : List Ins) (acc : List Nat), c.foldl (fun acc i => ddF acc (i.sel L)) acc = ddF acc (c.flatMap (Ins.sel L))
  | [], acc => rfl
  | i :: r, acc => by rw [List.foldl_cons, foldl_ddF L r, List.flatMap_cons, ddF_append]
theorem sel_len {n L : Nat} {i : Ins} (hi : i.ok n) : (i.sel L).length ≤ 4 := by
  have hl := fitPs_len hi.2
  have hf4 : i.fm.length ≤ 4 := fm_len hi.1
  unfold Ins.sel
  split
  · have := filterMap_len (Pt.of L) i.ps; omega
  · simp
theorem named_ok (P : PcF tb F p) (k : Nat) (h : MH) {n : Nat} {c : List Ins} (hc : ∀ i ∈ c, i.ok n) (hn : c.length ≤ 1000) {L : Nat} (hL : L = 114 ∨ L = 109) {x X : D} (hv : view x h = some X) (hX : seqD X = some (c.map Ins.d)) :
    callN tb F (k + 1) p.named [x, sg L] h = .ok (.lst ((ddF [] (c.flatMap (Ins.sel L))).map sg)) h := by
  refine callN_of P.named rfl rfl (run_of (b := B_named p.gF) rfl (e := [.val x, .val (sg L), .no, .no, .no, .no]) rfl rfl ?_)
  unfold B_named
  rw [execs_nx (X_setN (x := .dct []) rfl rfl)]
  have get : (view x h).bind seqD = some (c.map Ins.d) := by rw [hv]; exact hX
  have lp : MP.exec tb (callN tb F k) (.forR (.nm 3) (.var 0) (.cons (.set 4 (.idx (.glo p.gF) (.idx (.var 3) (.cst (.int (0)))))) (.cons (.forr (.nm 5) (.rng (.blt .len (.cons (.var 4) .nil))) nmB) (.cons (.wip [5]) (.cons (.wip [3, 4, 5]) .nil))))) (nmE x L []) h = .nx (nmE x L (ddF [] (c.flatMap (Ins.sel L)))) h := by
    have e0 : ev tb (callN tb F k) (.var 0) (nmE x L []) h = .ok x h := E_var rfl
    simp only [MP.exec, e0, R.st, get]
    have z := loopR_seq (get := fun h => (view x h).bind seqD) (f := fun d e h => (match bindP (.nm 3) d e with
      | some e => MP.execs tb (callN tb F k) (.cons (.set 4 (.idx (.glo p.gF) (.idx (.var 3) (.cst (.int (0)))))) (.cons (.forr (.nm 5) (.rng (.blt .len (.cons (.var 4) .nil))) nmB) (.cons (.wip [5]) (.cons (.wip [3, 4, 5]) .nil)))) e h
      | none => .no)) (E := nmE x L) (mk := Ins.d) (g := fun acc i => ddF acc (i.sel L)) (h := h) (I := fun r acc => (∀ i ∈ r, i.ok n) ∧ acc.length + 4 * r.length < lim) (L := c) get (fun i r acc ⟨h1, h2⟩ => by
        have hi := h1 i List.mem_cons_self
        rw [List.length_cons] at h2
        obtain ⟨f1, f2⟩ := nm_forms hi.1
        refine ⟨?_, fun j m => h1 j (List.mem_cons_of_mem _ m), by have := ddF_len (l := i.sel L) (acc := acc); have := sel_len (L := L) hi; omega⟩
        show MP.execs tb (callN tb F k) _ [.val x, .val (sg L), .own (.dct (acc.map bT)), .val i.d, .no, .no] h = _
        rw [execs_nx (X_set (E_idx (Ov (E_glo P.gF) view_forms) (E_idx (Ov (E_var rfl) rfl) E_cst (ins_0 i)) f2))]
        show MP.execs tb (callN tb F k) _ (nmE2 x L i acc) h = _
        rw [execs_nx (named_in h hi hL x acc (by omega))]
        rfl) c.length 0 [] (by omega) ⟨by simpa using hc, by
          have : (0 : Nat) + 4 * c.length < 10000000 := by omega
          simpa using this⟩
    rw [List.length_map]
    rw [List.drop_zero, foldl_ddF] at z
    exact z.1
  show MP.execs tb _ _ (nmE x L []) h = _
  refine (execs_nx lp).trans ?_
  refine (execs_nx (show MP.exec tb (callN tb F k) (.wip [3, 4, 5]) (nmE x L (ddF [] (c.flatMap (Ins.sel L)))) h = .nx (nmE x L (ddF [] (c.flatMap (Ins.sel L)))) h from rfl)).trans ?_
  refine execs_rt (X_ret (E_blt (Oo rfl) ?_))
  show some (D.lst (((ddF [] (c.flatMap (Ins.sel L))).map bT).map (·.1))) = _
  rw [List.map_map]; rfl
end
end MP

set_option maxRecDepth 100000
set_option maxHeartbeats 4000000
/-! MP36: a piece is made. -/
namespace MP
open PySem PySem.Spec PyProof.Rows L2 SrtO
theorem view_app {x X : D} {h l : MH} (hv : view x h = some X) : view x (h ++ l) = some X := by
  cases x with
  | ref n =>
    have hn : n < h.length := by
      rcases Nat.lt_or_ge n h.length with z | z
      · exact z
      · rw [show view (.ref n) h = h[n]? from rfl, List.getElem?_eq_none z] at hv; cases hv
    show (h ++ l)[n]? = _
    rw [List.getElem?_append_left hn]; exact hv
  | _ => exact hv
theorem seq_len {X : D} {l : List D} (h : seqD X = some l) : bltD .len [X] = some (.int (l.length : Int)) := by
  cases X <;> first | (cases h; done) | (cases h; rfl)
theorem seq_tuple {X : D} {l : List D} (h : seqD X = some l) : bltD .tuple [X] = some (.tup l) := by
  cases X <;> first | (cases h; done) | (cases h; rfl)
theorem seq_list {X : D} {l : List D} (h : seqD X = some l) : bltD .list [X] = some (.lst l) := by
  cases X <;> first | (cases h; done) | (cases h; rfl)
theorem seq_idx {X : D} {l : List D} (h : seqD X = some l) {j : Nat} (hj : j < l.length) : idxD X (.int (j : Int)) = some l[j] := by
  have : L2.atI l (j : Int) = some l[j] := by rw [atI_nat hj, List.getElem?_eq_getElem hj]
  cases X <;> first | (cases h; done) | (cases h; exact this)
section
variable {tb : Tb} {Φ : Nat → List D → MH → R D}
theorem turns_dd {G : D → List (D × D) → MH → R (List (D × D))} {h : MH} : ∀ (l acc : List Nat), acc.length + l.length < lim → (∀ c ∈ l, ∀ acc : List Nat, acc.length < lim → G (sg c) (acc.map bT) h = .ok ((if c ∈ acc then acc else acc ++ [c]).map bT) h) → turns G (l.map sg) (acc.map bT) h = .ok ((ddF acc l).map bT) h
  | [], acc, _, _ => rfl
  | c :: r, acc, ha, H => by
    rw [List.length_cons] at ha
    show (G (sg c) (acc.map bT) h).bind (fun acc h => turns G (r.map sg) acc h) = _
    rw [H c List.mem_cons_self acc (by omega)]
    show turns G (r.map sg) ((if c ∈ acc then acc else acc ++ [c]).map bT) h = _
    rw [turns_dd r _ (by split <;> (try rw [List.length_append, List.length_singleton]) <;> omega) fun b m => H b (List.mem_cons_of_mem _ m)]
    rw [show ddF acc (c :: r) = if c ∈ acc then ddF acc r else ddF (acc ++ [c]) r from rfl]
    split <;> rfl
theorem E_dcT {ws : List Nat} {kx : M} {pt : Pat} {it : It} {e : Ev} {h : MH} {l : List Nat} (hno : noOwn e ws = true) (hp : patIn ws pt = true) (hit : evI tb Φ it e h = .ok (l.map sg) h) (hlen : l.length < lim)
    (step : ∀ c ∈ l, ∃ e', bindP pt (sg c) (wipeE e ws) = some e' ∧ ev tb Φ kx e' h = .ok (sg c) h) : ev tb Φ (.dc ws kx (.cst (.bl true)) pt it .nil) e h = .ok (.dct ((ddF [] l).map bT)) h := by
  unfold ev
  rw [hno, hp, if_pos (show (true && true) = true from rfl), hit]
  show ((turns _ (l.map sg) (([] : List Nat).map bT) h).bind _) = _
  rw [turns_dd l [] (by simpa using hlen) fun c m acc hacc => ?_]
  · rfl
  · obtain ⟨e', h1, h2⟩ := step c m
    have hk : kk (sg c) = 0 := rfl
    simp only [h1, evC, R.bind, if_true, h2, ev, hk, beq_self_eq_true, List.length_map, hacc, decide_true, Bool.and_self, dput_bT]
theorem smallC_up : smallC.Pairwise (· < ·) := by decide
theorem greatC_up : greatC.Pairwise (· < ·) := by decide
theorem sel_sub {n : Nat} {i : Ins} (hi : i.ok n) : (∀ c ∈ i.sel 114, c ∈ smallC) ∧ (∀ c ∈ i.sel 109, c ∈ greatC) := by
  have hl := fitPs_len hi.2
  have key : ∀ L c, c ∈ i.ps.filterMap (Pt.of L) → ∃ q l, q.of L = some c ∧ fitP n q l = true := fun L c hc => by
    obtain ⟨q, hq, e⟩ := List.mem_filterMap.mp hc
    obtain ⟨j, hj, rfl⟩ := List.getElem_of_mem hq
    exact ⟨_, _, e, fitPs_get hi.2 j hj (by omega)⟩
  constructor
  · intro c hc
    have hc : c ∈ i.ps.filterMap (Pt.of 114) := by simpa [Ins.sel] using hc
    obtain ⟨q, l, e, f⟩ := key _ _ hc
    cases q with
    | r d =>
      have : d = c := by simpa [Pt.of] using e
      subst this
      exact of_decide_eq_true (Bool.and_eq_true_iff.mp (show (l == 114 && decide (d ∈ smallC)) = true from f)).2
    | _ => simp [Pt.of] at e
  · intro c hc
    have hc : c ∈ i.ps.filterMap (Pt.of 109) := by
      unfold Ins.sel at hc
      split at hc
      · exact hc
      · cases hc
    obtain ⟨q, l, e, f⟩ := key _ _ hc
    cases q with
    | m d =>
      have : d = c := by simpa [Pt.of] using e
      subst this
      exact of_decide_eq_true (Bool.and_eq_true_iff.mp (show (l == 109 && decide (d ∈ greatC)) = true from f)).2
    | _ => simp [Pt.of] at e
/-- what a row names, sorted -/
def pick (U l : List Nat) : List Nat := U.filter fun c => decide (c ∈ l)
theorem srt_pick {U l : List Nat} (hU : U.Pairwise (· < ·)) (hn : U.length < 60) (sub : ∀ c ∈ l, c ∈ U) : isortB ltS ((ddF [] l).map sg) = (pick U l).map sg ∧ (ddF [] l).length < 60 := by
  have nd : (ddF [] l).Nodup := ddF_nodup List.nodup_nil
  have sub' : ∀ c ∈ ddF [] l, c ∈ U := fun c m => sub c (by simpa using ddF_mem.mp m)
  have e := isort_filter hU nd sub'
  have e2 : (U.filter fun c => decide (c ∈ ddF [] l)) = pick U l := List.filter_congr fun c _ => by
    rw [decide_eq_decide, ddF_mem]; simp
  refine ⟨by rw [isort_sg, e, e2], ?_⟩
  have := congrArg List.length e
  rw [isort_all] at this
  rw [this]
  exact Nat.lt_of_le_of_lt (List.length_filter_le _ _) hn
def rgs (c : List Ins) (is os : List Nat) : List Nat := pick smallC (c.flatMap (Ins.sel 114) ++ is ++ os)
def cls (c : List Ins) : List Nat := pick greatC (c.flatMap (Ins.sel 109))
def plcs (w : Nat) : Nat := [0, 6, 4, 3].getD w 0
structure PieceOk (w : Nat) (c : List Ins) (is os : List Nat) : Prop where
  w1 : 1 ≤ w
  w3 : w ≤ 3
  len : c.length ≤ 24
  ok : ∀ i ∈ c, i.ok c.length
  isN : is.Nodup
  isS : ∀ a ∈ is, a ∈ smallC
  is3 : is.length ≤ 3
  osN : os.Nodup
  osS : ∀ a ∈ os, a ∈ smallC
  os2 : os.length ≤ 2
  room : (rgs c is os).length + (cls c).length ≤ plcs w
def pieceF (w : Nat) (c : List Ins) (is os : List Nat) : List (Str × D) := [(y_width, .int (w : Int)), (y_code, .tup (c.map Ins.d)), (y_inputs, .tup (is.map sg)), (y_outputs, .tup (os.map sg)), (y_registers, .tup ((rgs c is os).map sg)), (y_cells, .tup ((cls c).map sg))]
theorem pick_congr {U l m : List Nat} (h : ∀ c, c ∈ l ↔ c ∈ m) : pick U l = pick U m := List.filter_congr fun c _ => by rw [decide_eq_decide]; exact h c
theorem E_slen {ws : List Nat} {i : Nat} {m : M} {e : Ev} {h : MH} {l : List D} (hno : (noOwn e ws && ws.contains i && decide (i < e.length)) = true) (q : ev tb Φ m e h = .ok (.lst l) h) (q1 : l.all isStrD = true) (q2 : l.length < 60) : ev tb Φ (.slen ws i m) e h = .ok (.int (distS [] l)) h := by
  unfold ev
  rw [if_pos hno, opd_ok q]
  simp only [R.bind, vi, q1, q2, decide_true, Bool.and_self, if_true]
theorem set_last {h : MH} {a b : D} : (h ++ [a]).set h.length b = h ++ [b] := by
  rw [List.set_append_right _ _ (Nat.le_refl _), Nat.sub_self]; rfl
theorem get_last {h : MH} {a : D} : (h ++ [a])[h.length]? = some a := by
  rw [List.getElem?_append_right (Nat.le_refl _), Nat.sub_self]; rfl
theorem X_sattL {a b : M} {e : Ev} {h : MH} {y : D} {c : Nat} {f : Str} {fs : List (Str × D)} (hb : ev tb Φ b e (h ++ [.ins c fs]) = .ok y (h ++ [.ins c fs])) (ha : ev tb Φ a e (h ++ [.ins c fs]) = .ok (.ref h.length) (h ++ [.ins c fs])) (q : (decide (fs.length < 900) && tb.fld c f) = true) :
    MP.exec tb Φ (.satt a f b) e (h ++ [.ins c fs]) = .nx e (h ++ [.ins c (fput f y fs)]) := (X_satt hb ha get_last q).trans (by rw [set_last])
theorem C_one {t : T} {e : Ev} {h : MH} (q : evT tb Φ t e h = .ok true h) : evC tb Φ (.cons t .nil) e h = .ok true h := by
  simp only [evC, q, R.bind]; rfl
end
section
variable {tb : Tb} {F : Nat → Option Fd} {p : PcI}
/-- a row of letters passes -/
theorem row_ok (P : PcF tb F p) (k : Nat) {H : MH} {y Y s0 s1 s2 s3 s4 : D} {l : List Nat} {m : Nat} (hv : view y H = some Y) (hY : seqD Y = some (l.map sg)) (nd : l.Nodup) (sub : ∀ c ∈ l, c ∈ smallC) (hm : l.length ≤ m) (hm3 : m ≤ 3) :
    MP.execs tb (callN tb F (k + 1)) (.cons (.set 9 (.lcR [10] (.var 10) (.nm 10) (.var 7) (.cons (.v (.call p.one (.cons (.var 10) (.cons (.glo p.gS) .nil)))) .nil))) (.cons (.iff (.or (.v (.cmp .ne (.blt .len (.cons (.var 9) .nil)) (.blt .len (.cons (.var 7) .nil)))) (.or (.v (.cmp .ne (.slen [10] 10 (.var 9)) (.blt .len (.cons (.var 7) .nil)))) (.v (.cmp .gt (.blt .len (.cons (.var 7) .nil)) (.var 8))))) (.cons .never .nil) .nil) (.cons (.wip [7, 8, 9]) .nil)))
      [.val s0, .val s1, .val s2, .val s3, .val s4, .no, .no, .val y, .val (.int (m : Int)), .no, .no] H = .nx [.val s0, .val s1, .val s2, .val s3, .val s4, .no, .no, .no, .no, .no, .no] H := by
  have g : ev tb (callN tb F (k + 1)) (.lcR [10] (.var 10) (.nm 10) (.var 7) (.cons (.v (.call p.one (.cons (.var 10) (.cons (.glo p.gS) .nil)))) .nil)) [.val s0, .val s1, .val s2, .val s3, .val s4, .no, .no, .val y, .val (.int (m : Int)), .no, .no] H = .ok (.lst (l.map sg)) H := by
    have z := ev_lcR (tb := tb) (Φ := callN tb F (k + 1)) (mk := sg) (ws := [10]) (elt := .var 10) (p := .nm 10) (m := .var 7) (cs := .cons (.v (.call p.one (.cons (.var 10) (.cons (.glo p.gS) .nil)))) .nil) (e := [.val s0, .val s1, .val s2, .val s3, .val s4, .no, .no, .val y, .val (.int (m : Int)), .no, .no]) (h := H) (x := y) (l := l) (P := fun _ => true) (G := sg) rfl rfl (E_var rfl) (by rw [hv]; exact hY) (by show _ ≤ 10000000; omega) (fun c hc => ⟨_, rfl, C_one (T_v (E_call (E_cons (E_var rfl) (E_cons (E_glo P.gS) E_nil)) P.dOne (by
      rw [one_ok P k, decide_eq_true (smallS_mem.mpr (sub c hc))]))), fun _ => E_var rfl⟩)
    rw [List.filter_eq_self.mpr fun _ _ => rfl] at z
    exact z
  refine (execs_nx (X_set g)).trans ?_
  have vy : ∀ s9 s10 : Slot, Oc tb (callN tb F (k + 1)) (.blt .len (.cons (.var 7) .nil)) [.val s0, .val s1, .val s2, .val s3, .val s4, .no, .no, .val y, .val (.int (m : Int)), s9, s10] H (.int (l.length : Int)) H := fun _ _ => Ov (E_blt (Ov (E_var rfl) hv) ((seq_len hY).trans (by rw [List.length_map]))) rfl
  have l1 : bltD .len [.lst (l.map sg)] = some (.int (l.length : Int)) := by show some (D.int ((l.map sg).length : Int)) = _; rw [List.length_map]
  have l2 : distS [] (l.map sg) = l.length := distS_nodup (acc := []) nd (by simp)
  refine (execs_nx (X_skip (T_or0 (T_v (E_cmp (Ov (E_blt (Ov (E_var rfl) rfl) l1) rfl) (vy _ _) ((cD_nei _ _).trans (congrArg (fun b => some !b) (decide_eq_true rfl))))) (T_or0 (T_v (E_cmp (Ov (E_slen (l := l.map sg) rfl (E_var rfl) (allStr_sg l) (by rw [List.length_map]; omega)) rfl) (vy _ _) ((cD_nei _ _).trans (congrArg (fun b => some !b) (decide_eq_true (by rw [l2])))))) (T_v (E_cmp (vy _ _) (Ov (E_var rfl) rfl) ((cD_gti _ _).trans (congrArg some (decide_eq_false (by omega))))))))) ).trans ?_
  rfl
theorem init_ok (P : PcF tb F p) (k : Nat) {h : MH} {cl : Nat} {w : Nat} {c : List Ins} {is os : List Nat} (O : PieceOk w c is os) {x xi xo X XI XO : D} (hx : view x h = some X) (sX : seqD X = some (c.map Ins.d)) (hxi : view xi h = some XI) (sXI : seqD XI = some (is.map sg)) (hxo : view xo h = some XO) (sXO : seqD XO = some (os.map sg))
    (fl : ∀ f ∈ [y_width, y_code, y_inputs, y_outputs, y_registers, y_cells], tb.fld cl f = true) : callN tb F (k + 4) p.init [.ref h.length, .int (w : Int), x, xi, xo] (h ++ [.ins cl []]) = .ok .non (h ++ [.ins cl (pieceF w c is os)]) := by
  refine callN_of P.init rfl rfl (run_ofN (b := B_Piece_init p.within p.valid p.one p.named p.gM p.gS p.gP) rfl (e := [.val (.ref h.length), .val (.int (w : Int)), .val x, .val xi, .val xo, .no, .no, .no, .no, .no, .no]) rfl rfl ?_)
  have vx : ∀ (e : Ev) (d : D), e[2]? = some (.val x) → Oc tb (callN tb F (k + 3)) (.var 2) e (h ++ [d]) X (h ++ [d]) := fun e d q => Ov (E_var q) (view_app hx)
  have vxi : ∀ (e : Ev) (d : D), e[3]? = some (.val xi) → Oc tb (callN tb F (k + 3)) (.var 3) e (h ++ [d]) XI (h ++ [d]) := fun e d q => Ov (E_var q) (view_app hxi)
  have vxo : ∀ (e : Ev) (d : D), e[4]? = some (.val xo) → Oc tb (callN tb F (k + 3)) (.var 4) e (h ++ [d]) XO (h ++ [d]) := fun e d q => Ov (E_var q) (view_app hxo)
  have ln : ∀ (e : Ev) (d : D), e[2]? = some (.val x) → ev tb (callN tb F (k + 3)) (.blt .len (.cons (.var 2) .nil)) e (h ++ [d]) = .ok (.int (c.length : Int)) (h ++ [d]) := fun e d q => E_blt (vx e d q) ((seq_len sX).trans (by rw [List.length_map]))
  have w1 := O.w1
  have w3 := O.w3
  have c24 := O.len
  let L : List Nat := ddF [] (c.flatMap (Ins.sel 114)) ++ is ++ os
  let E0 : Ev := [.val (.ref h.length), .val (.int (w : Int)), .val x, .val xi, .val xo, .no, .no, .no, .no, .no, .no]
  let E6 : Ev := [.val (.ref h.length), .val (.int (w : Int)), .val x, .val xi, .val xo, .no, .val (.lst (L.map sg)), .no, .no, .no, .no]
  let H0 : MH := h ++ [.ins cl []]
  have hlen4 : ∀ (L : Nat), (c.flatMap (Ins.sel L)).length ≤ 4 * c.length := fun L => by
    have key : ∀ c' : List Ins, (∀ i ∈ c', i.ok c.length) → (c'.flatMap (Ins.sel L)).length ≤ 4 * c'.length := by
      intro c'
      induction c' with
      | nil => intro _; simp
      | cons i r ih =>
        intro H
        have a := ih fun j m => H j (List.mem_cons_of_mem _ m)
        have b := sel_len (L := L) (H i List.mem_cons_self)
        rw [List.flatMap_cons, List.length_append, List.length_cons]; omega
    exact key c O.ok
  have dlen : ∀ (M : Nat), (ddF [] (c.flatMap (Ins.sel M))).length ≤ 96 := fun M => by
    have := ddF_len (l := c.flatMap (Ins.sel M)) (acc := []); have := hlen4 M; simp only [List.length_nil] at *; omega
  have i3 := O.is3
  have o2 := O.os2
  have s1 : MP.exec tb (callN tb F (k + 3)) (.iff (.or (.not (.v (.call p.within (.cons (.var 1) (.cons (.cst (.int (3))) .nil))))) (.or (.v (.cmp .eq (.var 1) (.cst (.int (0))))) (.v (.cmp .gt (.blt .len (.cons (.var 2) .nil)) (.glo p.gM))))) (.cons .never .nil) .nil) E0 H0 = .nx E0 H0 :=
    X_skip (T_or0 (T_not (T_v (E_call (E_cons (E_var rfl) (E_cons E_cst E_nil)) P.dWithin (within_ok P _ _ w 3 w3)))) (T_or0 (T_v (E_cmp (Ov (E_var rfl) rfl) (Ov E_cst rfl) ((cD_eqi _ _).trans (congrArg some (decide_eq_false (by omega)))))) (T_v (E_cmp (Ov (ln _ _ rfl) rfl) (Ov (E_glo P.gM) rfl) ((cD_gti _ _).trans (congrArg some (decide_eq_false (by omega))))))))
  have s2 : MP.exec tb (callN tb F (k + 3)) (.forr (.nm 5) (.rng (.blt .len (.cons (.var 2) .nil))) (.cons (.iff (.not (.v (.call p.valid (.cons (.idx (.var 2) (.var 5)) (.cons (.blt .len (.cons (.var 2) .nil)) .nil))))) (.cons .never .nil) .nil) (.cons (.wip [5]) .nil))) E0 H0 = .nx E0 H0 := by
    refine (X_for (ds := (List.range c.length).map fun (j : Nat) => D.int (j : Int)) rfl (I_rng (ln _ _ rfl) (by omega))).trans (loop_all fun d hd => ?_)
    obtain ⟨j, hj, rfl⟩ := List.mem_map.mp hd
    have hj : j < c.length := List.mem_range.mp hj
    exact (execs_nx (e' := [.val (.ref h.length), .val (.int (w : Int)), .val x, .val xi, .val xo, .val (.int (j : Int)), .no, .no, .no, .no, .no]) (X_skip (T_not (t := .v _) (r := true) (T_v (E_call (E_cons (E_idx (vx _ _ rfl) (E_var rfl) ((seq_idx sX (by rw [List.length_map]; exact hj)).trans (congrArg some (List.getElem_map ..)))) (E_cons (ln _ _ rfl) E_nil)) P.dValid (valid_ok P k _ _ _ (O.ok _ (List.getElem_mem hj)))))))).trans rfl
  have s4 : MP.exec tb (callN tb F (k + 3)) (.forr (.tp [7, 8]) (.val (.tup (.cons (.tup (.cons (.var 3) (.cons (.cst (.int (3))) .nil))) (.cons (.tup (.cons (.var 4) (.cons (.cst (.int (2))) .nil))) .nil)))) (.cons (.set 9 (.lcR [10] (.var 10) (.nm 10) (.var 7) (.cons (.v (.call p.one (.cons (.var 10) (.cons (.glo p.gS) .nil)))) .nil))) (.cons (.iff (.or (.v (.cmp .ne (.blt .len (.cons (.var 9) .nil)) (.blt .len (.cons (.var 7) .nil)))) (.or (.v (.cmp .ne (.slen [10] 10 (.var 9)) (.blt .len (.cons (.var 7) .nil)))) (.v (.cmp .gt (.blt .len (.cons (.var 7) .nil)) (.var 8))))) (.cons .never .nil) .nil) (.cons (.wip [7, 8, 9]) .nil)))) E0 H0 = .nx E0 H0 :=
    (X_for (ds := [.tup [xi, .int 3], .tup [xo, .int 2]]) rfl (I_val (E_tup (E_cons (E_tup (E_cons (E_var rfl) (E_cons E_cst E_nil)) rfl) (E_cons (E_tup (E_cons (E_var rfl) (E_cons E_cst E_nil)) rfl) E_nil)) rfl) (fun _ z => nomatch z) rfl)).trans
      ((loopF_cons (row_ok (l := is) (m := 3) P (k + 2) (view_app hxi) sXI O.isN O.isS i3 (by omega))).trans ((loopF_cons (row_ok (l := os) (m := 2) P (k + 2) (view_app hxo) sXO O.osN O.osS o2 (by omega))).trans rfl))
  have s6 : MP.exec tb (callN tb F (k + 3)) (.set 6 (.bin .add (.bin .add (.call p.named (.cons (.var 2) (.cons (.cst (.str y_r)) .nil))) (.blt .list (.cons (.var 3) .nil))) (.blt .list (.cons (.var 4) .nil)))) E0 H0 = .nx E6 H0 := by
    have n1 := named_ok P (k + 2) H0 O.ok (by omega) (L := 114) (.inl rfl) (x := x) (view_app hx) sX
    have d1 := dlen 114
    refine X_set (E_bin (z := .lst (L.map sg)) (x := .lst ((ddF [] (c.flatMap (Ins.sel 114)) ++ is).map sg)) (y := .lst (os.map sg)) (Ov (E_bin (z := .lst ((ddF [] (c.flatMap (Ins.sel 114)) ++ is).map sg)) (x := .lst ((ddF [] (c.flatMap (Ins.sel 114))).map sg)) (y := .lst (is.map sg)) (Ov (E_call (E_cons (E_var rfl) (E_cons (E_cst (x := .str y_r)) E_nil)) P.dNamed n1) rfl) (Ov (E_blt (vxi _ _ rfl) (seq_list sXI)) rfl) ?_) rfl) (Ov (E_blt (vxo _ _ rfl) (seq_list sXO)) rfl) ?_)
    · show (if ((ddF [] (c.flatMap (Ins.sel 114))).map sg).length + (is.map sg).length ≤ lim then some (D.lst ((ddF [] (c.flatMap (Ins.sel 114))).map sg ++ is.map sg)) else none) = _
      rw [if_pos (by rw [List.length_map, List.length_map]; show _ ≤ 10000000; omega), List.map_append]
    · show (if ((ddF [] (c.flatMap (Ins.sel 114)) ++ is).map sg).length + (os.map sg).length ≤ lim then some (D.lst ((ddF [] (c.flatMap (Ins.sel 114)) ++ is).map sg ++ os.map sg)) else none) = _
      rw [if_pos (by rw [List.length_map, List.length_map, List.length_append]; show _ ≤ 10000000; omega), ← List.map_append]
  have fl' : ∀ f ∈ [y_width, y_code, y_inputs, y_outputs, y_registers, y_cells], ∀ n : Nat, n < 900 → (decide (n < 900) && tb.fld cl f) = true := fun f hf n hn => by rw [fl f hf, decide_eq_true hn]; rfl
  have subL : ∀ a ∈ L, a ∈ smallC := fun a ha => by
    rcases List.mem_append.mp ha with ha | ha
    · rcases List.mem_append.mp ha with ha | ha
      · obtain ⟨i, hi, m⟩ := List.mem_flatMap.mp (by simpa using ddF_mem.mp ha)
        exact (sel_sub (O.ok i hi)).1 a m
      · exact O.isS a ha
    · exact O.osS a ha
  have eL : pick smallC L = rgs c is os := pick_congr fun a => by
    simp only [L, List.mem_append, ddF_mem, List.not_mem_nil, false_or]
  obtain ⟨g1, g2⟩ := srt_pick smallC_up (by decide) subL
  obtain ⟨g3, g4⟩ := srt_pick (l := c.flatMap (Ins.sel 109)) greatC_up (by decide) fun a ha => by
    obtain ⟨i, hi, m⟩ := List.mem_flatMap.mp ha
    exact (sel_sub (O.ok i hi)).2 a m
  have hL : L.length < lim := by
    have := dlen 114
    show (ddF [] (c.flatMap (Ins.sel 114)) ++ is ++ os).length < 10000000
    rw [List.length_append, List.length_append]; omega
  have u1 : MP.exec tb (callN tb F (k + 3)) (.satt (.var 0) y_width (.var 1)) E6 (h ++ [.ins cl []]) = .nx E6 (h ++ [.ins cl (fput y_width (.int (w : Int)) [])]) := X_sattL (E_var rfl) (E_var rfl) (fl' _ (by simp) _ (by decide))
  have u2 : MP.exec tb (callN tb F (k + 3)) (.satt (.var 0) y_code (.blt .tuple (.cons (.var 2) .nil))) E6 (h ++ [.ins cl [(y_width, .int (w : Int))]]) = .nx E6 (h ++ [.ins cl (fput y_code (.tup (c.map Ins.d)) [(y_width, .int (w : Int))])]) := X_sattL (E_blt (vx _ _ rfl) (seq_tuple sX)) (E_var rfl) (fl' _ (by simp) _ (by show 1 < 900; decide))
  have f2 : fput y_code (.tup (c.map Ins.d)) [(y_width, .int (w : Int))] = [(y_width, .int (w : Int)), (y_code, .tup (c.map Ins.d))] := rfl
  have u3 : MP.exec tb (callN tb F (k + 3)) (.satt (.var 0) y_inputs (.blt .tuple (.cons (.var 3) .nil))) E6 (h ++ [.ins cl [(y_width, .int (w : Int)), (y_code, .tup (c.map Ins.d))]]) = .nx E6 (h ++ [.ins cl [(y_width, .int (w : Int)), (y_code, .tup (c.map Ins.d)), (y_inputs, .tup (is.map sg))]]) := X_sattL (E_blt (vxi _ _ rfl) (seq_tuple sXI)) (E_var rfl) (fl' _ (by simp) _ (by show 2 < 900; decide))
  have u4 : MP.exec tb (callN tb F (k + 3)) (.satt (.var 0) y_outputs (.blt .tuple (.cons (.var 4) .nil))) E6 (h ++ [.ins cl [(y_width, .int (w : Int)), (y_code, .tup (c.map Ins.d)), (y_inputs, .tup (is.map sg))]]) = .nx E6 (h ++ [.ins cl [(y_width, .int (w : Int)), (y_code, .tup (c.map Ins.d)), (y_inputs, .tup (is.map sg)), (y_outputs, .tup (os.map sg))]]) := X_sattL (E_blt (vxo _ _ rfl) (seq_tuple sXO)) (E_var rfl) (fl' _ (by simp) _ (by show 3 < 900; decide))
  have b1 : ∀ l : List Nat, bltD .list [.dct (l.map bT)] = some (.lst (l.map sg)) := fun l => by
    show some (D.lst ((l.map bT).map (·.1))) = _
    rw [List.map_map]; rfl
  have u5 : MP.exec tb (callN tb F (k + 3)) (.satt (.var 0) y_registers (.blt .tuple (.cons (.srt .str (.blt .list (.cons (.dc [10] (.var 10) (.cst (.bl true)) (.nm 10) (.val (.var 6)) .nil) .nil))) .nil))) E6 (h ++ [.ins cl [(y_width, .int (w : Int)), (y_code, .tup (c.map Ins.d)), (y_inputs, .tup (is.map sg)), (y_outputs, .tup (os.map sg))]]) = .nx E6 (h ++ [.ins cl [(y_width, .int (w : Int)), (y_code, .tup (c.map Ins.d)), (y_inputs, .tup (is.map sg)), (y_outputs, .tup (os.map sg)), (y_registers, .tup ((rgs c is os).map sg))]]) :=
    X_sattL (E_blt (Ov (E_srt (l := (ddF [] L).map sg) (Ov (E_blt (Ov (E_dcT (l := L) rfl rfl (I_val (E_var rfl) (fun _ z => nomatch z) rfl) hL fun c hc => ⟨_, rfl, E_var rfl⟩) rfl) (b1 _)) rfl) (allStr_sg _) (by rw [List.length_map]; exact g2)) rfl) (by rw [g1, eL]; rfl)) (E_var rfl) (fl' _ (by simp) _ (by show 4 < 900; decide))
  have u6 : MP.exec tb (callN tb F (k + 3)) (.satt (.var 0) y_cells (.blt .tuple (.cons (.srt .str (.call p.named (.cons (.var 2) (.cons (.cst (.str y_m)) .nil)))) .nil))) E6 (h ++ [.ins cl [(y_width, .int (w : Int)), (y_code, .tup (c.map Ins.d)), (y_inputs, .tup (is.map sg)), (y_outputs, .tup (os.map sg)), (y_registers, .tup ((rgs c is os).map sg))]]) = .nx E6 (h ++ [.ins cl (pieceF w c is os)]) :=
    X_sattL (E_blt (Ov (E_srt (l := (ddF [] (c.flatMap (Ins.sel 109))).map sg) (Ov (E_call (E_cons (E_var rfl) (E_cons E_cst E_nil)) P.dNamed (named_ok P (k + 2) _ O.ok (by omega) (L := 109) (.inr rfl) (x := x) (view_app hx) sX)) rfl) (allStr_sg _) (by rw [List.length_map]; exact g4)) rfl) (by rw [g3]; rfl)) (E_var rfl) (fl' _ (by simp) _ (by show 5 < 900; decide))
  have u7 : MP.exec tb (callN tb F (k + 3)) (.iff (.v (.cmp .gt (.bin .add (.blt .len (.cons (.att (.var 0) y_registers) .nil)) (.blt .len (.cons (.att (.var 0) y_cells) .nil))) (.idx (.glo p.gP) (.var 1)))) (.cons .never .nil) .nil) E6 (h ++ [.ins cl (pieceF w c is os)]) = .nx E6 (h ++ [.ins cl (pieceF w c is os)]) := by
    have gp : idxD (.tup [.int 0, .int 6, .int 4, .int 3]) (.int (w : Int)) = some (.int (plcs w : Int)) := by
      rcases (show w = 1 ∨ w = 2 ∨ w = 3 by omega) with rfl | rfl | rfl <;> rfl
    have rm := O.room
    have tl : ∀ l : List Nat, bltD .len [.tup (l.map sg)] = some (.int (l.length : Int)) := fun l => by show some (D.int ((l.map sg).length : Int)) = _; rw [List.length_map]
    exact X_skip (T_v (E_cmp (Ov (E_bin (Ov (E_blt (Ov (E_att (E_var rfl) get_last (fl _ (by simp)) (by rfl)) rfl) (tl (rgs c is os))) rfl) (Ov (E_blt (Ov (E_att (E_var rfl) get_last (fl _ (by simp)) (by rfl)) rfl) (tl (cls c))) rfl) rfl) rfl) (Ov (E_idx (Ov (E_glo P.gP) rfl) (E_var rfl) gp) rfl) ((cD_gti _ _).trans (congrArg some (decide_eq_false (by omega))))))
  refine ⟨E6, ?_⟩
  refine (execs_nx s1).trans ((execs_nx s2).trans ((execs_nx (show MP.exec tb (callN tb F (k + 3)) (.wip [5]) E0 H0 = .nx E0 H0 from rfl)).trans ((execs_nx s4).trans ((execs_nx (show MP.exec tb (callN tb F (k + 3)) (.wip [7, 8, 9]) E0 H0 = .nx E0 H0 from rfl)).trans ((execs_nx s6).trans ((execs_nx u1).trans ((execs_nx u2).trans ((execs_nx u3).trans ((execs_nx u4).trans ((execs_nx u5).trans ((execs_nx u6).trans (execs_one u7))))))))))))
end
end MP

set_option maxRecDepth 100000
set_option maxHeartbeats 4000000
/-! MP37: a piece as a value; the law's own rows and pieces. -/
namespace MP
open PySem PySem.Spec PyProof.Rows L2 SrtO
theorem lowL_map {α : Type} {f : α → D} {n : Nat} (h : ∀ a, low n (f a) = true) : ∀ l : List α, lowL n (l.map f) = true
  | [] => rfl
  | a :: r => by
    show (low n (f a) && lowL n (r.map f)) = true
    rw [h, lowL_map h r]; rfl
theorem low_pt (n : Nat) (q : Pt) : low n q.d = true := by cases q <;> rfl
theorem low_ins (n : Nat) (i : Ins) : low n i.d = true := by
  show (true && lowL n (i.ps.map Pt.d)) = true
  rw [lowL_map (low_pt n)]; rfl
theorem low_sg (n c : Nat) : low n (sg c) = true := rfl
theorem thawF_piece {n : Nat} {h : MH} {w : Nat} {c : List Ins} {is os : List Nat} : thawF n h (pieceF w c is os) = some (pieceF w c is os) := by
  have t : ∀ (l : List D), lowL n l = true → thaw n h (.tup l) = some (.tup l) := fun l q => by
    show (if lowL n l then some (D.tup l) else none) = _
    rw [q]; rfl
  simp only [pieceF, thawF, t _ (lowL_map (low_ins n) c), t _ (lowL_map (low_sg n) is), t _ (lowL_map (low_sg n) os), t _ (lowL_map (low_sg n) (rgs c is os)), t _ (lowL_map (low_sg n) (cls c))]
  rfl
section
variable {tb : Tb} {F : Nat → Option Fd} {p : PcI}
def pieceD (cl w : Nat) (c : List Ins) (is os : List Nat) : D := .ins cl (pieceF w c is os)
theorem mk_piece (P : PcF tb F p) (k : Nat) {e : Ev} {h : MH} {cl : Nat} {w : Nat} {c : List Ins} {is os : List Nat} (O : PieceOk w c is os) {ms : Ms} {ds : List D} {x xi xo X XI XO : D} (hq : evs tb (callN tb F (k + 4)) ms e h = .ok ds h) (hd : ds ++ tb.dfl p.init (ds.length + 1) = [.int (w : Int), x, xi, xo]) (hi : tb.init cl = some p.init) (hlow : h.all (low h.length) = true)
    (hx : view x h = some X) (sX : seqD X = some (c.map Ins.d)) (hxi : view xi h = some XI) (sXI : seqD XI = some (is.map sg)) (hxo : view xo h = some XO) (sXO : seqD XO = some (os.map sg))
    (fl : ∀ f ∈ [y_width, y_code, y_inputs, y_outputs, y_registers, y_cells], tb.fld cl f = true) : ev tb (callN tb F (k + 4)) (.mk cl ms) e h = .ok (pieceD cl w c is os) h := by
  have q := init_ok P k (h := h) (cl := cl) O hx sX hxi sXI hxo sXO fl
  simp only [ev, hq, R.bind, hi, hd, q, frozen, get_last, thawF_piece, List.take_left, hlow, if_true, pieceD]
/-! ### the law's rows -/
theorem E_modL {Φ : Nat → List D → MH → R D} {e : Ev} {h : MH} {a : M} {x : Int} {n : Nat} (hx : ev tb Φ a e h = .ok (.int x) h) {b : M} (hb : ev tb Φ b e h = .ok (.int (n : Int)) h) (hn : 0 < n) : ev tb Φ (.bin .mod (.blt .int (.cons a .nil)) b) e h = .ok (.int (((x % (n : Int)).toNat : Nat) : Int)) h := by
  refine E_bin (Ov (E_blt (Ov hx rfl) rfl) rfl) (Ov hb rfl) ?_
  show (if (0 : Int) < (n : Int) then some (D.int (x % (n : Int))) else none) = _
  rw [if_pos (by omega), Int.toNat_of_nonneg (Int.emod_nonneg _ (by omega))]
theorem mod_lt (x : Int) {n : Nat} (hn : 0 < n) : (x % (n : Int)).toNat < n := by
  have := Int.emod_nonneg x (show (n : Int) ≠ 0 by omega)
  have := Int.emod_lt_of_pos x (show (0 : Int) < (n : Int) by omega)
  omega
theorem E_fdiv {Φ : Nat → List D → MH → R D} {e : Ev} {h : MH} {a : M} {x : Int} {n : Nat} (hx : ev tb Φ a e h = .ok (.int x) h) (hn : 0 < n ∧ n < 1073741824) : ev tb Φ (.bin .fdiv a (.cst (.int (n : Int)))) e h = .ok (.int (x / (n : Int))) h := by
  refine E_bin (Ov hx rfl) (Ov E_cst rfl) ?_
  show (if (0 : Int) < (n : Int) ∧ (n : Int) < 1073741824 then some (D.int (x / (n : Int))) else none) = _
  rw [if_pos ⟨by omega, by omega⟩]
/-- the names of the kinds -/
def nm12 : List Str := [y_put, y_step, y_vow, y_select, y_merge, y_firm, y_store, y_load, y_print, y_test, y_jump, y_ask]
/-- the row of a kind -/
def row12 (k x y z u r n : Nat) (hk : Nat) : Ins := match k with
  | 0 => ⟨0, [.r x, .n (r % 8)]⟩
  | 1 => ⟨1, [.r x, .s (signK.getD (r % 8) y__2b), .r y, .r z]⟩
  | 2 => ⟨1, [.r x, .s (signK.getD (6 + r % 2) y__2b), .r y, .r z]⟩
  | 3 => ⟨2, [.r x, .r y, .r z, .r u]⟩
  | 4 => ⟨3, [.r x, .r y]⟩
  | 5 => ⟨4, [.r x, .r y]⟩
  | 6 => ⟨5, [.m 77, .r y]⟩
  | 7 => ⟨6, [.r x, .m 77]⟩
  | 8 => ⟨7, [.r y]⟩
  | 9 => ⟨8, [.r y, .n (r % (n + 1))]⟩
  | 10 => ⟨9, [.n (r % (n + 1))]⟩
  | _ => ⟨10, [.r x, .m (if hk = 0 then 72 else 75), .r y]⟩
theorem E_modN {Φ : Nat → List D → MH → R D} {e : Ev} {h : MH} {a b : M} {r n : Nat} (hx : ev tb Φ a e h = .ok (.int (r : Int)) h) (hb : ev tb Φ b e h = .ok (.int (n : Int)) h) (hn : 0 < n) : ev tb Φ (.bin .mod (.blt .int (.cons a .nil)) b) e h = .ok (.int ((r % n : Nat) : Int)) h :=
  (E_modL hx hb hn).trans (by rw [← Int.natCast_emod, Int.toNat_natCast])
theorem row12_ok {k x y z u r n hk : Nat} {LS : List Nat} (hs : ∀ a ∈ LS, a ∈ smallC) (hk12 : k < 12) (hx : x ∈ LS) (hy : y ∈ LS) (hz : z ∈ LS) (hu : u ∈ LS) : (row12 k x y z u r n hk).ok n ∧ (∀ c ∈ (row12 k x y z u r n hk).sel 114, c ∈ LS) ∧ (∀ c ∈ (row12 k x y z u r n hk).sel 109, c = 77) := by
  have ex := decide_eq_true (hs x hx)
  have ey := decide_eq_true (hs y hy)
  have ez := decide_eq_true (hs z hz)
  have eu := decide_eq_true (hs u hu)
  have e8 : r % 8 ≤ 7 := by have := Nat.mod_lt r (show 8 > 0 by decide); omega
  have en : r % (n + 1) ≤ n := by have := Nat.mod_lt r (show n + 1 > 0 by omega); omega
  have es : ∀ j, signK.getD (j % 8) y__2b ∈ signK := fun j => by
    have h8 : j % 8 < 8 := Nat.mod_lt _ (by decide)
    have : ∀ i < 8, signK.getD i y__2b ∈ signK := by decide
    exact this _ h8
  have es2 : signK.getD (6 + r % 2) y__2b ∈ signK := by
    have h2 : r % 2 < 2 := Nat.mod_lt _ (by decide)
    have : ∀ i < 2, signK.getD (6 + i) y__2b ∈ signK := by decide
    exact this _ h2
  have e77 : decide (77 ∈ greatC) = true := by decide
  have eh : decide ((if hk = 0 then 72 else 75) ∈ greatC) = true := by split <;> decide
  match k, hk12 with
  | 0, _ | 1, _ | 2, _ | 3, _ | 4, _ | 5, _ | 6, _ | 7, _ | 8, _ | 9, _ | 10, _ | 11, _ =>
    refine ⟨⟨by simp [row12], by simp [row12, Ins.fm, fmK, fitPs, fitP, hs x hx, hs y hy, hs z hz, hs u hu, e8, en, es r, es2] <;> first | exact es r | exact es2 | exact of_decide_eq_true eh | exact of_decide_eq_true e77⟩, fun c hc => ?_, fun c hc => ?_⟩
    · simp [row12, Ins.sel, Pt.of] at hc <;> grind
    · simp [row12, Ins.sel, Pt.of] at hc <;> grind
end
end MP

set_option maxRecDepth 100000
set_option maxHeartbeats 4000000
/-! MP38: the law's rows and codes. -/
namespace MP
open PySem PySem.Spec PyProof.Rows L2 SrtO
def ent12 (f : Nat → D) (n : Nat) : List (D × D) := (List.range n).map fun k => (.str (nm12.getD k y_put), f k)
theorem dput_new {x v : D} : ∀ {l : List (D × D)}, (∀ p ∈ l, eqD p.1 x = false) → dput l x v = l ++ [(x, v)]
  | [], _ => rfl
  | (a, b) :: r, H => by
    show (if eqD a x then (a, v) :: r else (a, b) :: dput r x v) = _
    rw [H (a, b) List.mem_cons_self, if_neg Bool.false_ne_true, dput_new fun p m => H p (List.mem_cons_of_mem _ m)]; rfl
theorem ent_put (f : Nat → D) {j : Nat} (hj : j < 12) : setD (.dct (ent12 f j)) (.str (nm12.getD j y_put)) (f j) = some (.dct (ent12 f (j + 1))) := by
  have nq : ∀ j < 12, ∀ i < j, decide ((nm12.getD i y_put) = nm12.getD j y_put) = false := by decide
  have e1 : dput (ent12 f j) (.str (nm12.getD j y_put)) (f j) = ent12 f (j + 1) := by
    rw [dput_new fun p hp => ?_]
    · unfold ent12; rw [List.range_succ, List.map_append]; rfl
    · obtain ⟨i, hi, rfl⟩ := List.mem_map.mp hp
      exact nq j hj i (List.mem_range.mp hi)
  have e2 : kfit (ent12 f j) (.str (nm12.getD j y_put)) = true := by
    cases j with
    | zero => rfl
    | succ j => unfold ent12; rw [List.range_succ_eq_map]; rfl
  have e3 : (ent12 f j).length < lim := by
    unfold ent12; rw [List.length_map, List.length_range]; show j < 10000000; omega
  show (if kfit (ent12 f j) (.str (nm12.getD j y_put)) && decide ((ent12 f j).length < lim) then some (D.dct (dput (ent12 f j) (.str (nm12.getD j y_put)) (f j))) else none) = _
  rw [e2, decide_eq_true e3, e1]; rfl
theorem ent_get (f : Nat → D) {k : Nat} (hk : k < 12) : idxD (.dct (ent12 f 12)) (.str (nm12.getD k y_put)) = some (f k) := by
  match k, hk with
  | 0, _ | 1, _ | 2, _ | 3, _ | 4, _ | 5, _ | 6, _ | 7, _ | 8, _ | 9, _ | 10, _ | 11, _ => kernel_rfl
section
variable {tb : Tb} {F : Nat → Option Fd}
theorem strLen {x : Str} (hl : x.length ≤ lim) : bltD .len [.str x] = some (.int (x.cps.toList.length : Int)) := by
  show (if x.length ≤ lim then some (D.int (x.length : Int)) else none) = _
  rw [if_pos hl]; rfl
theorem D_cons {Φ : Nat → List D → MH → R D} {a b : M} {l : Kvs} {e : Ev} {h : MH} {acc : List (D × D)} {x y : D} {r : R D} (ha : ev tb Φ a e h = .ok x h) (hb : ev tb Φ b e h = .ok y h) (hk : (MP.kk x == 0) = true) (q : evd tb Φ l e (dput acc x y) h = r) : evd tb Φ (.cons a b l) e acc h = r := by
  simp only [evd, ha, hb, R.bind, hk, if_true, q]
/-- a row of the law: of one of these kinds, with these letters -/
def Lrow (LS ks : List Nat) (n : Nat) (i : Ins) : Prop := ∃ k ∈ ks, ∃ x ∈ LS, ∃ y ∈ LS, ∃ z ∈ LS, ∃ u ∈ LS, ∃ r hk, i = row12 k x y z u r n hk
theorem Lrow.ok {LS ks : List Nat} {n : Nat} {i : Ins} (h : Lrow LS ks n i) (hs : ∀ a ∈ LS, a ∈ smallC) (hk : ∀ a ∈ ks, a < 12) : i.ok n ∧ (∀ c ∈ i.sel 114, c ∈ LS) ∧ (∀ c ∈ i.sel 109, c = 77) := by
  obtain ⟨k, mk, x, hx, y, hy, z, hz, u, hu, r, h', rfl⟩ := h
  exact row12_ok hs (hk k mk) hx hy hz hu
theorem lrow_ok {ir : Nat} (hR : F ir = some ⟨4, 10, B_law_row, none, false⟩) (k : Nat) (h : MH) (d : Int) (n : Nat) {ls : Str} (h0 : 0 < ls.cps.toList.length) (hl : ls.length ≤ lim) {ks : List Nat} (hk0 : 0 < ks.length) (hk : ∀ a ∈ ks, a < 12) :
    ∃ i, Lrow ls.cps.toList ks n i ∧ callN tb F (k + 1) ir [.int d, .int (n : Int), .str ls, .lst (ks.map fun k => .str (nm12.getD k y_put))] h = .ok i.d h := by
  let KD : D := .lst (ks.map fun k => .str (nm12.getD k y_put))
  let SG : D := .lst [.str y__2b, .str y__2d, .str y__2a, .str y__26, .str y__3d, .str y__3c, .str y__2b_21, .str y__2d_21]
  have hl' : bltD .len [.str ls] = some (.int (ls.cps.toList.length : Int)) := strLen hl
  have g0 : ∀ x : Int, (x % (ls.cps.toList.length : Int)).toNat < ls.cps.toList.length := fun x => mod_lt x h0
  let x : Nat := ls.cps.toList[((d / 12) % (ls.cps.toList.length : Int)).toNat]'(g0 _)
  let y : Nat := ls.cps.toList[((d / 36) % (ls.cps.toList.length : Int)).toNat]'(g0 _)
  let z : Nat := ls.cps.toList[((d / 108) % (ls.cps.toList.length : Int)).toNat]'(g0 _)
  let r : Nat := ((d / 324) % 72).toNat
  have hu : r % ls.cps.toList.length < ls.cps.toList.length := Nat.mod_lt _ h0
  let u : Nat := ls.cps.toList[r % ls.cps.toList.length]'hu
  let hk' : Nat := r % 2
  have hkk : ((((d % 12).toNat : Nat) : Int) % (ks.length : Int)).toNat < ks.length := mod_lt _ hk0
  let kk : Nat := ks[((((d % 12).toNat : Nat) : Int) % (ks.length : Int)).toNat]'hkk
  refine ⟨row12 kk x y z u r n hk', ⟨kk, List.getElem_mem _, x, List.getElem_mem _, y, List.getElem_mem _, z, List.getElem_mem _, u, List.getElem_mem _, r, hk', rfl⟩, ?_⟩
  let f : Nat → D := fun k => (row12 k x y z u r n hk').d
  let E (s4 s5 s6 s7 s8 s9 : Slot) : Ev := [.val (.int d), .val (.int (n : Int)), .val (.str ls), .val KD, s4, s5, s6, s7, s8, s9]
  let E9 (s9 : Slot) : Ev := E (.val SG) (.val (sg x)) (.val (sg y)) (.val (sg z)) (.val (.int (r : Int))) s9
  refine callN_of hR rfl rfl (run_of (b := B_law_row) rfl (e := E .no .no .no .no .no .no) rfl rfl ?_)
  have lt : ∀ (q : Nat) (s4 s5 s6 s7 : Slot), 0 < q ∧ q < 1073741824 → ev tb (callN tb F k) (.idx (.var 2) (.bin .mod (.blt .int (.cons (.bin .fdiv (.var 0) (.cst (.int (q : Int)))) .nil)) (.blt .len (.cons (.var 2) .nil)))) (E s4 s5 s6 s7 .no .no) h = .ok (sg (ls.cps.toList[((d / (q : Int)) % (ls.cps.toList.length : Int)).toNat]'(g0 _))) h := fun q s4 s5 s6 s7 hq => E_idx (Ov (E_var rfl) rfl) (E_modL (E_fdiv (E_var rfl) hq) (E_blt (Ov (E_var rfl) rfl) hl') h0) (sgS_idx (g0 _) hl)
  have p4 : MP.exec tb (callN tb F k) (.set 4 (.lst (.cons (.cst (.str y__2b)) (.cons (.cst (.str y__2d)) (.cons (.cst (.str y__2a)) (.cons (.cst (.str y__26)) (.cons (.cst (.str y__3d)) (.cons (.cst (.str y__3c)) (.cons (.cst (.str y__2b_21)) (.cons (.cst (.str y__2d_21)) .nil)))))))))) (E .no .no .no .no .no .no) h = .nx (E (.val SG) .no .no .no .no .no) h := rfl
  have p5 := X_set (i := 5) (lt 12 (.val SG) .no .no .no ⟨by decide, by decide⟩)
  have p6 := X_set (i := 6) (lt 36 (.val SG) (.val (sg x)) .no .no ⟨by decide, by decide⟩)
  have p7 := X_set (i := 7) (lt 108 (.val SG) (.val (sg x)) (.val (sg y)) .no ⟨by decide, by decide⟩)
  have p8 : MP.exec tb (callN tb F k) (.set 8 (.bin .mod (.blt .int (.cons (.bin .fdiv (.var 0) (.cst (.int (324)))) .nil)) (.cst (.int (72))))) (E (.val SG) (.val (sg x)) (.val (sg y)) (.val (sg z)) .no .no) h = .nx (E9 .no) h := X_set (E_modL (n := 72) (E_fdiv (n := 324) (E_var rfl) ⟨by decide, by decide⟩) E_cst (by decide))
  have v5 : ∀ s, ev tb (callN tb F k) (.var 5) (E9 s) h = .ok (sg x) h := fun _ => E_var rfl
  have v6 : ∀ s, ev tb (callN tb F k) (.var 6) (E9 s) h = .ok (sg y) h := fun _ => E_var rfl
  have v7 : ∀ s, ev tb (callN tb F k) (.var 7) (E9 s) h = .ok (sg z) h := fun _ => E_var rfl
  have v8 : ∀ s, ev tb (callN tb F k) (.var 8) (E9 s) h = .ok (.int (r : Int)) h := fun _ => E_var rfl
  have vc : ∀ (s : Slot) (j : Nat), ev tb (callN tb F k) (.cst (.int (j : Int))) (E9 s) h = .ok (.int (j : Int)) h := fun _ _ => E_cst
  have v1 : ∀ s, ev tb (callN tb F k) (.bin .add (.var 1) (.cst (.int (1)))) (E9 s) h = .ok (.int ((n + 1 : Nat) : Int)) h := fun _ => E_bin (Ov (E_var rfl) rfl) (Ov E_cst rfl) rfl
  have sgn : ∀ (s : Slot) (m : M) (j : Nat), j < 8 → ev tb (callN tb F k) m (E9 s) h = .ok (.int (j : Int)) h → ev tb (callN tb F k) (.idx (.var 4) m) (E9 s) h = .ok (.str (signK.getD j y__2b)) h := fun s m j hj q => E_idx (x := SG) (Ov (E_var rfl) rfl) q (by
    match j, hj with
    | 0, _ | 1, _ | 2, _ | 3, _ | 4, _ | 5, _ | 6, _ | 7, _ => rfl)
  have m8 : ∀ s, ev tb (callN tb F k) (.bin .mod (.blt .int (.cons (.var 8) .nil)) (.cst (.int (8)))) (E9 s) h = .ok (.int ((r % 8 : Nat) : Int)) h := fun s => E_modN (n := 8) (v8 s) (vc s 8) (by decide)
  have m2 : ∀ s, ev tb (callN tb F k) (.bin .mod (.blt .int (.cons (.var 8) .nil)) (.cst (.int (2)))) (E9 s) h = .ok (.int ((r % 2 : Nat) : Int)) h := fun s => E_modN (n := 2) (v8 s) (vc s 2) (by decide)
  have mn : ∀ s, ev tb (callN tb F k) (.bin .mod (.blt .int (.cons (.var 8) .nil)) (.bin .add (.var 1) (.cst (.int (1))))) (E9 s) h = .ok (.int ((r % (n + 1) : Nat) : Int)) h := fun s => E_modN (n := n + 1) (v8 s) (v1 s) (by omega)
  have r0 : ∀ s, ev tb (callN tb F k) (.tup (.cons (.cst (.str y_put)) (.cons (.var 5) (.cons (.bin .mod (.blt .int (.cons (.var 8) .nil)) (.cst (.int (8)))) .nil)))) (E9 s) h = .ok (f 0) h := fun s => E_tup (E_cons E_cst (E_cons (v5 s) (E_cons (m8 s) E_nil))) rfl
  have r1 : ∀ s, ev tb (callN tb F k) (.tup (.cons (.cst (.str y_step)) (.cons (.var 5) (.cons (.idx (.var 4) (.bin .mod (.blt .int (.cons (.var 8) .nil)) (.cst (.int (8))))) (.cons (.var 6) (.cons (.var 7) .nil)))))) (E9 s) h = .ok (f 1) h := fun s => E_tup (E_cons E_cst (E_cons (v5 s) (E_cons (sgn s _ _ (Nat.mod_lt _ (by decide)) (m8 s)) (E_cons (v6 s) (E_cons (v7 s) E_nil))))) rfl
  have r2 : ∀ s, ev tb (callN tb F k) (.tup (.cons (.cst (.str y_step)) (.cons (.var 5) (.cons (.idx (.var 4) (.bin .add (.cst (.int (6))) (.bin .mod (.blt .int (.cons (.var 8) .nil)) (.cst (.int (2)))))) (.cons (.var 6) (.cons (.var 7) .nil)))))) (E9 s) h = .ok (f 2) h := fun s => E_tup (E_cons E_cst (E_cons (v5 s) (E_cons (sgn s _ (6 + r % 2) (by have := Nat.mod_lt r (show 2 > 0 by decide); omega) (E_bin (Ov E_cst rfl) (Ov (m2 s) rfl) (by show some (D.int (6 + ((r % 2 : Nat) : Int))) = some (.int ((6 + r % 2 : Nat) : Int)); congr 2))) (E_cons (v6 s) (E_cons (v7 s) E_nil))))) rfl
  have r3 : ∀ s, ev tb (callN tb F k) (.tup (.cons (.cst (.str y_select)) (.cons (.var 5) (.cons (.var 6) (.cons (.var 7) (.cons (.idx (.var 2) (.bin .mod (.blt .int (.cons (.var 8) .nil)) (.blt .len (.cons (.var 2) .nil)))) .nil)))))) (E9 s) h = .ok (f 3) h := fun s => E_tup (E_cons E_cst (E_cons (v5 s) (E_cons (v6 s) (E_cons (v7 s) (E_cons (E_idx (Ov (E_var rfl) rfl) (E_modN (v8 s) (E_blt (Ov (E_var rfl) rfl) hl') h0) (sgS_idx hu hl)) E_nil))))) rfl
  have r4 : ∀ s, ev tb (callN tb F k) (.tup (.cons (.cst (.str y_merge)) (.cons (.var 5) (.cons (.var 6) .nil)))) (E9 s) h = .ok (f 4) h := fun s => E_tup (E_cons E_cst (E_cons (v5 s) (E_cons (v6 s) E_nil))) rfl
  have r5 : ∀ s, ev tb (callN tb F k) (.tup (.cons (.cst (.str y_firm)) (.cons (.var 5) (.cons (.var 6) .nil)))) (E9 s) h = .ok (f 5) h := fun s => E_tup (E_cons E_cst (E_cons (v5 s) (E_cons (v6 s) E_nil))) rfl
  have r6 : ∀ s, ev tb (callN tb F k) (.tup (.cons (.cst (.str y_store)) (.cons (.cst (.str y_M)) (.cons (.var 6) .nil)))) (E9 s) h = .ok (f 6) h := fun s => E_tup (E_cons E_cst (E_cons E_cst (E_cons (v6 s) E_nil))) rfl
  have r7 : ∀ s, ev tb (callN tb F k) (.tup (.cons (.cst (.str y_load)) (.cons (.var 5) (.cons (.cst (.str y_M)) .nil)))) (E9 s) h = .ok (f 7) h := fun s => E_tup (E_cons E_cst (E_cons (v5 s) (E_cons E_cst E_nil))) rfl
  have r8 : ∀ s, ev tb (callN tb F k) (.tup (.cons (.cst (.str y_print)) (.cons (.var 6) .nil))) (E9 s) h = .ok (f 8) h := fun s => E_tup (E_cons E_cst (E_cons (v6 s) E_nil)) rfl
  have r9 : ∀ s, ev tb (callN tb F k) (.tup (.cons (.cst (.str y_test)) (.cons (.var 6) (.cons (.bin .mod (.blt .int (.cons (.var 8) .nil)) (.bin .add (.var 1) (.cst (.int (1))))) .nil)))) (E9 s) h = .ok (f 9) h := fun s => E_tup (E_cons E_cst (E_cons (v6 s) (E_cons (mn s) E_nil))) rfl
  have r10 : ∀ s, ev tb (callN tb F k) (.tup (.cons (.cst (.str y_jump)) (.cons (.bin .mod (.blt .int (.cons (.var 8) .nil)) (.bin .add (.var 1) (.cst (.int (1))))) .nil))) (E9 s) h = .ok (f 10) h := fun s => E_tup (E_cons E_cst (E_cons (mn s) E_nil)) rfl
  have hkI : ∀ s, ev tb (callN tb F k) (.idx (.cst (.str y_HK)) (.bin .mod (.blt .int (.cons (.var 8) .nil)) (.cst (.int (2))))) (E9 s) h = .ok (sg (if hk' = 0 then 72 else 75)) h := fun s => E_idx (Ov E_cst rfl) (m2 s) (by
    have : r % 2 = 0 ∨ r % 2 = 1 := by have := Nat.mod_lt r (show 2 > 0 by decide); omega
    show idxD (.str y_HK) (.int ((r % 2 : Nat) : Int)) = some (sg (if r % 2 = 0 then 72 else 75))
    rcases this with e | e <;> rw [e] <;> rfl)
  have r11 : ∀ s, ev tb (callN tb F k) (.tup (.cons (.cst (.str y_ask)) (.cons (.var 5) (.cons (.idx (.cst (.str y_HK)) (.bin .mod (.blt .int (.cons (.var 8) .nil)) (.cst (.int (2))))) (.cons (.var 6) .nil))))) (E9 s) h = .ok (f 11) h := fun s => E_tup (E_cons E_cst (E_cons (v5 s) (E_cons (hkI s) (E_cons (v6 s) E_nil)))) rfl
  have o : ∀ j, (E9 (.own (.dct (ent12 f j))))[9]? = some (.own (.dct (ent12 f j))) := fun _ => rfl
  have q9 : MP.exec tb (callN tb F k) (.setN 9 (.dct (.cons (.cst (.str y_put)) (.tup (.cons (.cst (.str y_put)) (.cons (.var 5) (.cons (.bin .mod (.blt .int (.cons (.var 8) .nil)) (.cst (.int (8)))) .nil)))) (.cons (.cst (.str y_step)) (.tup (.cons (.cst (.str y_step)) (.cons (.var 5) (.cons (.idx (.var 4) (.bin .mod (.blt .int (.cons (.var 8) .nil)) (.cst (.int (8))))) (.cons (.var 6) (.cons (.var 7) .nil)))))) .nil)))) (E9 .no) h = .nx (E9 (.own (.dct (ent12 f 2)))) h := by
    refine (X_setN (x := .dct (ent12 f 2)) ?_ rfl).trans rfl
    exact D_cons E_cst (r0 .no) rfl (D_cons E_cst (r1 .no) rfl (congrArg (fun l => R.ok (D.dct l) h) (show dput (dput [] _ _) _ _ = _ by kernel_rfl)))
  have pu : ∀ (j : Nat) (s : Str) (m : M), j < 12 → nm12.getD j y_put = s → (∀ s, ev tb (callN tb F k) m (E9 s) h = .ok (f j) h) → MP.exec tb (callN tb F k) (.put 9 (.cst (.str s)) m) (E9 (.own (.dct (ent12 f j)))) h = .nx (E9 (.own (.dct (ent12 f (j + 1))))) h := fun j s m hj hs q => (X_put (q _) E_cst (o j) (by rw [← hs]; exact ent_put f hj)).trans rfl
  have rt : ev tb (callN tb F k) (.idx (.var 9) (.idx (.var 3) (.bin .mod (.bin .mod (.blt .int (.cons (.var 0) .nil)) (.cst (.int (12)))) (.blt .len (.cons (.var 3) .nil))))) (E9 (.own (.dct (ent12 f 12)))) h = .ok (f kk) h := by
    refine E_idx (x := .dct (ent12 f 12)) (Oo rfl) (E_idx (x := KD) (y := .int (((((d % 12).toNat : Nat) : Int) % (ks.length : Int)).toNat : Int)) (z := .str (nm12.getD kk y_put)) (Ov (E_var rfl) rfl) (E_bin (Ov (E_modL (n := 12) (E_var rfl) E_cst (by decide)) rfl) (Ov (E_blt (x := KD) (z := .int (ks.length : Int)) (Ov (E_var rfl) rfl) (by show some (D.int ((ks.map _).length : Int)) = _; rw [List.length_map])) rfl) ?_) ?_) (ent_get f (hk kk (List.getElem_mem _)))
    · have e2 : (((((d % 12).toNat : Nat) : Int) % (ks.length : Int)).toNat : Int) = (((d % 12).toNat : Nat) : Int) % (ks.length : Int) := Int.toNat_of_nonneg (Int.emod_nonneg _ (by omega))
      refine Eq.trans (b := if (0 : Int) < (ks.length : Int) then some (D.int ((((d % 12).toNat : Nat) : Int) % (ks.length : Int))) else none) rfl ?_
      rw [if_pos (by omega), e2]
    · show L2.atI (ks.map _) _ = _
      rw [atI_nat (by rw [List.length_map]; exact hkk), List.getElem?_map, List.getElem?_eq_getElem hkk]; rfl
  unfold B_law_row
  exact (execs_nx p4).trans ((execs_nx p5).trans ((execs_nx p6).trans ((execs_nx p7).trans ((execs_nx p8).trans ((execs_nx q9).trans ((execs_nx (pu 2 _ _ (by decide) rfl r2)).trans ((execs_nx (pu 3 _ _ (by decide) rfl r3)).trans ((execs_nx (pu 4 _ _ (by decide) rfl r4)).trans ((execs_nx (pu 5 _ _ (by decide) rfl r5)).trans ((execs_nx (pu 6 _ _ (by decide) rfl r6)).trans ((execs_nx (pu 7 _ _ (by decide) rfl r7)).trans ((execs_nx (pu 8 _ _ (by decide) rfl r8)).trans ((execs_nx (pu 9 _ _ (by decide) rfl r9)).trans ((execs_nx (pu 10 _ _ (by decide) rfl r10)).trans ((execs_nx (pu 11 _ _ (by decide) rfl r11)).trans (execs_rt (X_ret rt)))))))))))))))))
end
end MP

set_option maxRecDepth 100000
set_option maxHeartbeats 4000000
/-! MP39: the law's own pieces. -/
namespace MP
open PySem PySem.Spec PyProof.Rows L2 SrtO
def letS (w : Nat) : Str := [y_, y_abcd, y_abc, y_ab].getD w y_
theorem letS_ok {w : Nat} (h1 : 1 ≤ w) (h3 : w ≤ 3) : 0 < (letS w).cps.toList.length ∧ (letS w).length ≤ lim ∧ (∀ a ∈ (letS w).cps.toList, a ∈ smallC) ∧ (letS w).cps.toList.Nodup ∧ (letS w).cps.toList.length + 1 ≤ plcs w := by
  rcases (show w = 1 ∨ w = 2 ∨ w = 3 by omega) with rfl | rfl | rfl <;> decide
theorem num_small : ∀ k : Nat, k < 25 → inD (.str (toString (k : Int))) (.str smallS) = some false := by
  intro k hk
  match k, hk with
  | 0, _ | 1, _ | 2, _ | 3, _ | 4, _ | 5, _ | 6, _ | 7, _ | 8, _ | 9, _ | 10, _ | 11, _ | 12, _ | 13, _ | 14, _ | 15, _ | 16, _ | 17, _ | 18, _ | 19, _ | 20, _ | 21, _ | 22, _ | 23, _ | 24, _ => kernel_rfl
  | j + 25, h => exact absurd h (by omega)
theorem sign_small : ∀ x ∈ signK, inD (.str x) (.str smallS) = some false := by
  intro x hx
  simp only [signK, List.mem_cons, List.mem_nil_iff, or_false] at hx
  rcases hx with rfl | rfl | rfl | rfl | rfl | rfl | rfl | rfl <;> kernel_rfl
theorem up_small : Txt.upper smallS = greatS := by kernel_rfl
theorem cut1 {α : Type} (a : α) (l : List α) : cutL (a :: l) (some 1) none = l := by
  have e1 : HT.sIx (a :: l).length 0 (some 1) = 1 := by
    rw [show (1 : Int) = ((1 : Nat) : Int) from rfl, HT.sIx_nat, List.length_cons]
    omega
  have e2 : HT.sIx (a :: l).length (a :: l).length none = l.length + 1 := rfl
  unfold cutL
  rw [e1, e2]
  simp
def Pt.isR : Pt → Bool
  | .r _ => true
  | _ => false
theorem filter_isR : ∀ ps : List Pt, (ps.filter Pt.isR).map Pt.d = (ps.filterMap (Pt.of 114)).map sg
  | [] => rfl
  | .r c :: r => by
    have := filter_isR r
    rw [List.filter_cons_of_pos rfl, List.map_cons, this]; rfl
  | .m c :: r => by
    have := filter_isR r
    rw [List.filter_cons_of_neg Bool.false_ne_true, this]; rfl
  | .n c :: r => by
    have := filter_isR r
    rw [List.filter_cons_of_neg Bool.false_ne_true, this]; rfl
  | .s c :: r => by
    have := filter_isR r
    rw [List.filter_cons_of_neg Bool.false_ne_true, this]; rfl
theorem len2 {α : Type} {l : List α} (h : l.length = 2) : ∃ a b, l = [a, b] := by
  match l, h with
  | [a, b], _ => exact ⟨a, b, rfl⟩
theorem sel_cell {n : Nat} {i : Ins} (hi : i.ok n) : (i.k = 5 → ∃ c, i.ps.map Pt.d = [sg c, ((i.ps.map Pt.d).getD 1 .non)] ∧ i.sel 109 = [c]) ∧ (i.k = 6 → ∃ c, i.ps.map Pt.d = [((i.ps.map Pt.d).getD 0 .non), sg c] ∧ i.sel 109 = [c]) ∧ (i.k ≠ 5 → i.k ≠ 6 → i.sel 109 = []) := by
  have hl := fitPs_len hi.2
  have g := fitPs_get hi.2
  obtain ⟨k, ps⟩ := i
  refine ⟨fun e => ?_, fun e => ?_, fun e1 e2 => ?_⟩
  · subst e
    have hl : ps.length = 2 := hl
    obtain ⟨a, b, rfl⟩ : ∃ a b, ps = [a, b] := len2 hl
    have g0 := fit_of (L := 109) (g 0 (by show 0 < 2; decide) (by show 0 < 2; decide)) (.inr rfl)
    have g1 := fit_of (L := 109) (g 1 (by show 1 < 2; decide) (by show 1 < 2; decide)) (.inr rfl)
    obtain ⟨c, h1, h2⟩ := g0.1 rfl
    have h3 : b.of 109 = none := g1.2 (show (114 : Nat) ≠ 109 by decide)
    have h1 : a.of 109 = some c := h1
    have h2 : a.d = sg c := h2
    exact ⟨c, by show [a.d, b.d] = [sg c, b.d]; rw [h2], by
      show (if (109 : Nat) = 114 ∨ 5 ≠ 10 then [a, b].filterMap (Pt.of 109) else []) = [c]
      rw [if_pos (.inr (by decide))]
      simp [h1, h3]⟩
  · subst e
    have hl : ps.length = 2 := hl
    obtain ⟨a, b, rfl⟩ : ∃ a b, ps = [a, b] := len2 hl
    have g0 := fit_of (L := 109) (g 0 (by show 0 < 2; decide) (by show 0 < 2; decide)) (.inr rfl)
    have g1 := fit_of (L := 109) (g 1 (by show 1 < 2; decide) (by show 1 < 2; decide)) (.inr rfl)
    obtain ⟨c, h1, h2⟩ := g1.1 rfl
    have h3 : a.of 109 = none := g0.2 (show (114 : Nat) ≠ 109 by decide)
    have h1 : b.of 109 = some c := h1
    have h2 : b.d = sg c := h2
    exact ⟨c, by show [a.d, b.d] = [a.d, sg c]; rw [h2], by
      show (if (109 : Nat) = 114 ∨ 6 ≠ 10 then [a, b].filterMap (Pt.of 109) else []) = [c]
      rw [if_pos (.inr (by decide))]
      simp [h1, h3]⟩
  · unfold Ins.sel
    split
    · rename_i h10
      have h10 : k ≠ 10 := by
        rcases h10 with z | z
        · exact absurd z (by decide)
        · exact z
      have nf : ∀ k < 11, (k = 5 ∨ k = 6 ∨ k = 10) ∨ 109 ∉ fmK.getD k [] := by decide
      refine List.filterMap_eq_nil_iff.mpr fun q hq => ?_
      obtain ⟨j, hj, rfl⟩ := List.getElem_of_mem hq
      have hj2 : j < (fmK.getD k []).length := by
        have : ps.length = (fmK.getD k []).length := hl
        have hj : j < ps.length := hj
        omega
      exact (fit_of (L := 109) (g j hj hj2) (.inr rfl)).2 fun z => (nf k hi.1).elim (fun q => q.elim e1 fun q => q.elim e2 h10) fun q => q (by rw [← z]; exact List.getElem_mem _)
    · rfl
end MP

set_option maxRecDepth 100000
set_option maxHeartbeats 4000000
/-! MP40: the law's own codes and pieces. -/
namespace MP
open PySem PySem.Spec PyProof.Rows L2 SrtO
section
variable {tb : Tb} {F : Nat → Option Fd}
theorem lletters_ok {il : Nat} (hF : F il = some ⟨1, 1, B_law_letters, none, false⟩) (k : Nat) (h : MH) {w : Nat} (w1 : 1 ≤ w) (w3 : w ≤ 3) : callN tb F (k + 1) il [.int (w : Int)] h = .ok (.str (letS w)) h := by
  rcases (show w = 1 ∨ w = 2 ∨ w = 3 by omega) with rfl | rfl | rfl <;> exact callN_of hF rfl rfl (run_of (b := B_law_letters) rfl (e := [_]) rfl rfl rfl)
def kindsD (ks : List Nat) : D := .lst (ks.map fun k => .str (nm12.getD k y_put))
theorem lkinds_ok {ik : Nat} (hF : F ik = some ⟨0, 1, B_law_every_kind, none, false⟩) (k : Nat) (h : MH) : callN tb F (k + 1) ik [] h = .ok (kindsD (List.range 12)) h := callN_of hF rfl rfl (run_of (b := B_law_every_kind) rfl (e := [_]) rfl rfl rfl)
/-- the rows of a code -/
theorem lcode_lc {ir : Nat} (hR : F ir = some ⟨4, 10, B_law_row, none, false⟩) (hd : ∀ n, tb.dfl ir n = []) (k : Nat) (h : MH) {ds : List D} (dr : Dr ds) {a n : Nat} (ha : a + n ≤ ds.length) (hn : n ≤ 1000000) {ls : Str} (h0 : 0 < ls.cps.toList.length) (hl : ls.length ≤ lim) {ks : List Nat} (hk0 : 0 < ks.length) (hk : ∀ a ∈ ks, a < 12) :
    ∃ c : List Ins, c.length = n ∧ (∀ i ∈ c, Lrow ls.cps.toList ks n i) ∧ ev tb (callN tb F (k + 1)) (.lc [5] (.call ir (.cons (.idx (.var 0) (.bin .add (.var 1) (.var 5))) (.cons (.var 2) (.cons (.var 3) (.cons (.var 4) .nil))))) (.nm 5) (.rng (.var 2)) .nil) [.val (.lst ds), .val (.int (a : Int)), .val (.int (n : Int)), .val (.str ls), .val (kindsD ks), .no] h = .ok (.lst (c.map Ins.d)) h := by
  have hr : ∀ j : Nat, ∃ i : Ins, j < n → Lrow ls.cps.toList ks n i ∧ ∃ x : Int, ds[a + j]? = some (.int x) ∧ callN tb F (k + 1) ir [.int x, .int (n : Int), .str ls, kindsD ks] h = .ok i.d h := fun j => by
    by_cases hj : j < n
    · obtain ⟨x, gx, _⟩ := dr.get (i := a + j) (by omega)
      obtain ⟨i, h1, h2⟩ := lrow_ok (tb := tb) hR k h x n h0 hl hk0 hk
      exact ⟨i, fun _ => ⟨h1, x, gx, h2⟩⟩
    · exact ⟨⟨0, []⟩, fun z => absurd z hj⟩
  let g (j : Nat) : Ins := Classical.choose (hr j)
  have hg : ∀ j, j < n → Lrow ls.cps.toList ks n (g j) ∧ ∃ x : Int, ds[a + j]? = some (.int x) ∧ callN tb F (k + 1) ir [.int x, .int (n : Int), .str ls, kindsD ks] h = .ok (g j).d h := fun j => Classical.choose_spec (hr j)
  refine ⟨(List.range n).map g, by rw [List.length_map, List.length_range], fun i hi => ?_, ?_⟩
  · obtain ⟨j, hj, rfl⟩ := List.mem_map.mp hi
    exact (hg j (List.mem_range.mp hj)).1
  · have z := ev_lc (tb := tb) (Φ := callN tb F (k + 1)) (ws := [5]) (elt := .call ir (.cons (.idx (.var 0) (.bin .add (.var 1) (.var 5))) (.cons (.var 2) (.cons (.var 3) (.cons (.var 4) .nil))))) (p := .nm 5) (it := .rng (.var 2)) (cs := .nil) (e := [.val (.lst ds), .val (.int (a : Int)), .val (.int (n : Int)), .val (.str ls), .val (kindsD ks), .no]) (h := h) (mk := fun (j : Nat) => D.int (j : Int)) (l := List.range n) (P := fun _ => true) (G := fun j => (g j).d) rfl rfl (I_rng (E_var rfl) (by omega)) (by rw [List.length_range]; show n ≤ 10000000; omega) fun j hj => by
      obtain ⟨_, x, gx, q⟩ := hg j (List.mem_range.mp hj)
      refine ⟨_, rfl, rfl, fun _ => E_call (E_cons (E_idx (Ov (E_var rfl) rfl) (E_bin (Ov (E_var rfl) rfl) (Ov (E_var rfl) rfl) rfl) (z := .int x) ?_) (E_cons (E_var rfl) (E_cons (E_var rfl) (E_cons (E_var rfl) E_nil)))) hd q⟩
      show L2.atI ds ((a : Int) + (j : Int)) = _
      rw [← Int.natCast_add, atI_nat (by have := List.mem_range.mp hj; omega)]
      exact gx
    rw [z, List.filter_eq_self.mpr fun _ _ => rfl, List.map_map]; rfl
theorem lcode_ok {ic ir : Nat} (hC : F ic = some ⟨5, 6, B_law_code ir, none, false⟩) (hR : F ir = some ⟨4, 10, B_law_row, none, false⟩) (hd : ∀ n, tb.dfl ir n = []) (k : Nat) (h : MH) {ds : List D} (dr : Dr ds) {a n : Nat} (ha : a + n ≤ ds.length) (hn : n ≤ 1000000) {ls : Str} (h0 : 0 < ls.cps.toList.length) (hl : ls.length ≤ lim) {ks : List Nat} (hk0 : 0 < ks.length) (hk : ∀ a ∈ ks, a < 12) :
    ∃ c : List Ins, c.length = n ∧ (∀ i ∈ c, Lrow ls.cps.toList ks n i) ∧ callN tb F (k + 2) ic [.lst ds, .int (a : Int), .int (n : Int), .str ls, kindsD ks] h = .ok (.lst (c.map Ins.d)) h := by
  obtain ⟨c, h1, h2, h3⟩ := lcode_lc (tb := tb) hR hd k h dr ha hn h0 hl hk0 hk
  exact ⟨c, h1, h2, callN_of hC rfl rfl (run_of (b := B_law_code ir) rfl rfl rfl (execs_rt (X_ret h3)))⟩
/-- .. handed back new -/
theorem lcodeF_ok {ic ir : Nat} (hC : F ic = some ⟨5, 6, .cons (.retF (.lc [5] (.call ir (.cons (.idx (.var 0) (.bin .add (.var 1) (.var 5))) (.cons (.var 2) (.cons (.var 3) (.cons (.var 4) .nil))))) (.nm 5) (.rng (.var 2)) .nil)) .nil, none, true⟩) (hR : F ir = some ⟨4, 10, B_law_row, none, false⟩) (hd : ∀ n, tb.dfl ir n = []) (k : Nat) (h : MH) {ds : List D} (dr : Dr ds) {a n : Nat} (ha : a + n ≤ ds.length) (hn : n ≤ 1000000) {ls : Str} (h0 : 0 < ls.cps.toList.length) (hl : ls.length ≤ lim) {ks : List Nat} (hk0 : 0 < ks.length) (hk : ∀ a ∈ ks, a < 12) :
    ∃ c : List Ins, c.length = n ∧ (∀ i ∈ c, Lrow ls.cps.toList ks n i) ∧ callN tb F (k + 2) ic [.lst ds, .int (a : Int), .int (n : Int), .str ls, kindsD ks] h = .ok (.lst (c.map Ins.d)) h := by
  obtain ⟨c, h1, h2, h3⟩ := lcode_lc (tb := tb) hR hd k h dr ha hn h0 hl hk0 hk
  exact ⟨c, h1, h2, callN_ofF hC rfl rfl (run_ofF rfl rfl rfl (execs_rtF (X_retF h3 rfl)))⟩
/-! ### the law's piece -/
def lpD (w : Nat) (c : List Ins) (is os : List Nat) : D := .dct [(.str y_width, .int (w : Int)), (.str y_code, .lst (c.map Ins.d)), (.str y_inputs, .lst (is.map sg)), (.str y_outputs, .lst (os.map sg)), (.str y_names, .lst ((rgs c is os).map sg)), (.str y_cells, .lst ((cls c).map sg))]
theorem str_small {q : Pt} {n l : Nat} (hn : n < 25) (hq : fitP n q l = true) : ∃ x, bltD .str [q.d] = some (.str x) ∧ inD (.str x) (.str smallS) = some q.isR := by
  have num : ∀ k : Nat, k < 25 → ∃ x, bltD .str [.int (k : Int)] = some (.str x) ∧ inD (.str x) (.str smallS) = some false := fun k hk => ⟨toString (k : Int), by
    show (if (k : Int).natAbs < 2 ^ 64 then some (D.str (toString (k : Int))) else none) = _
    rw [if_pos (by rw [Int.natAbs_natCast]; omega)], num_small k hk⟩
  cases q with
  | r c =>
    have hc : c ∈ smallC := of_decide_eq_true (Bool.and_eq_true_iff.mp (show (l == 114 && decide (c ∈ smallC)) = true from hq)).2
    exact ⟨⟨#[c]⟩, rfl, (sg_inS c smallS).trans (congrArg some (decide_eq_true (smallS_mem.mpr hc)))⟩
  | m c =>
    have hc : c ∈ greatC := of_decide_eq_true (Bool.and_eq_true_iff.mp (show (l == 109 && decide (c ∈ greatC)) = true from hq)).2
    refine ⟨⟨#[c]⟩, rfl, (sg_inS c smallS).trans (congrArg some (decide_eq_false fun z => ?_))⟩
    have h1 := List.mem_range'_1.mp (smallS_mem.mp z)
    have h2 := List.mem_range'_1.mp hc
    omega
  | n k =>
    have hk : k < 25 := by
      have : ((l == 107 && decide (k ≤ 7)) || (l == 112 && decide (k ≤ n))) = true := hq
      simp only [Bool.or_eq_true, Bool.and_eq_true, decide_eq_true_eq] at this
      rcases this with h | h <;> omega
    exact num k hk
  | s x =>
    have hc : x ∈ signK := of_decide_eq_true (Bool.and_eq_true_iff.mp (show (l == 115 && decide (x ∈ signK)) = true from hq)).2
    exact ⟨x, rfl, sign_small x hc⟩
def lpE (w : Nat) (c : List Ins) (is os N C : List Nat) : Ev := [.val (.int (w : Int)), .val (.lst (c.map Ins.d)), .val (.lst (is.map sg)), .val (.lst (os.map sg)), .val (.str smallS), .val (.lst (N.map sg)), .own (.lst (C.map sg)), .no, .no, .no, .no, .no]
theorem lst_add {a b : List D} (h : a.length + b.length ≤ lim) : binD .add (.lst a) (.lst b) = some (.lst (a ++ b)) := by
  show (if a.length + b.length ≤ lim then some (D.lst (a ++ b)) else none) = _
  rw [if_pos h]
theorem lpiece_ok {ip : Nat} (hP : F ip = some ⟨4, 12, B_law_piece, none, false⟩) (k : Nat) (h : MH) {w n : Nat} {c : List Ins} {is os : List Nat} (hc : ∀ i ∈ c, i.ok n) (hn : n < 25) (hl : c.length ≤ 1000) (hi : is.length ≤ 1000) (ho : os.length ≤ 1000) (hiS : ∀ a ∈ is, a ∈ smallC) (hoS : ∀ a ∈ os, a ∈ smallC) :
    callN tb F (k + 1) ip [.int (w : Int), .lst (c.map Ins.d), .lst (is.map sg), .lst (os.map sg)] h = .ok (lpD w c is os) h := by
  let Φ := callN tb F k
  let E0 : Ev := [.val (.int (w : Int)), .val (.lst (c.map Ins.d)), .val (.lst (is.map sg)), .val (.lst (os.map sg)), .no, .no, .no, .no, .no, .no, .no, .no]
  refine callN_of hP rfl rfl (run_of (b := B_law_piece) rfl (e := E0) rfl rfl ?_)
  have ln : ∀ l : List Nat, (l.map sg).length = l.length := fun l => List.length_map ..
  have s5 : MP.exec tb Φ (.set 5 (.bin .add (.blt .list (.cons (.var 2) .nil)) (.blt .list (.cons (.var 3) .nil)))) (E0.set 4 (.val (.str smallS))) h = .nx (((E0.set 4 (.val (.str smallS)))).set 5 (.val (.lst ((is ++ os).map sg)))) h :=
    X_set (E_bin (x := .lst (is.map sg)) (y := .lst (os.map sg)) (Ov (E_blt (Ov (E_var rfl) rfl) rfl) rfl) (Ov (E_blt (Ov (E_var rfl) rfl) rfl) rfl) (by rw [lst_add (by rw [ln, ln]; show _ ≤ 10000000; omega), List.map_append]))
  have step : ∀ (i : Ins) (N C : List Nat), i.ok n → N.length ≤ 100000 → C.length ≤ 100000 → MP.execs tb Φ (.cons (.set 5 (.bin .add (.var 5) (.lc [11] (.var 11) (.nm 11) (.val (.slc (.var 7) (.so (.cst (.int (1)))) .no)) (.cons (.v (.cmp .inn (.blt .str (.cons (.var 11) .nil)) (.var 4))) .nil)))) (.cons (.iff (.v (.cmp .eq (.idx (.var 7) (.cst (.int (0)))) (.cst (.str y_store)))) (.cons (.app 6 (.idx (.var 7) (.cst (.int (1))))) .nil) .nil) (.cons (.iff (.v (.cmp .eq (.idx (.var 7) (.cst (.int (0)))) (.cst (.str y_load)))) (.cons (.app 6 (.idx (.var 7) (.cst (.int (2))))) .nil) .nil) (.cons (.wip [7]) .nil)))) ((lpE w c is os N C).set 7 (.val i.d)) h = .nx (lpE w c is os (N ++ i.sel 114) (C ++ i.sel 109)) h := fun i N C hi hN hC => by
    have hl' := fitPs_len hi.2
    have hf4 : i.fm.length ≤ 4 := fm_len hi.1
    have e114 : i.sel 114 = i.ps.filterMap (Pt.of 114) := if_pos (.inl rfl)
    have V7 : ∀ N C : List Nat, Oc tb Φ (.var 7) ((lpE w c is os N C).set 7 (.val i.d)) h i.d h := fun _ _ => Ov (E_var rfl) rfl
    have g : ev tb Φ (.lc [11] (.var 11) (.nm 11) (.val (.slc (.var 7) (.so (.cst (.int (1)))) .no)) (.cons (.v (.cmp .inn (.blt .str (.cons (.var 11) .nil)) (.var 4))) .nil)) ((lpE w c is os N C).set 7 (.val i.d)) h = .ok (.lst ((i.sel 114).map sg)) h := by
      have z := ev_lc (tb := tb) (Φ := Φ) (ws := [11]) (elt := .var 11) (p := .nm 11) (it := .val (.slc (.var 7) (.so (.cst (.int (1)))) .no)) (cs := .cons (.v (.cmp .inn (.blt .str (.cons (.var 11) .nil)) (.var 4))) .nil) (e := (lpE w c is os N C).set 7 (.val i.d)) (h := h) (mk := Pt.d) (l := i.ps) (P := Pt.isR) (G := Pt.d) rfl rfl
        (I_val (x := .tup (i.ps.map Pt.d)) (E_slc (V7 _ _) (E_so E_cst) E_no (congrArg (fun l => some (D.tup l)) (cut1 _ _))) (fun _ z => nomatch z) rfl) (by show _ ≤ 10000000; omega) fun q hq => by
          obtain ⟨j, hj, rfl⟩ := List.getElem_of_mem hq
          obtain ⟨x, b1, b2⟩ := str_small hn (fitPs_get hi.2 j hj (by omega))
          have vq : Oc tb Φ (.var 11) (((lpE w c is os N C).set 7 (.val i.d)).set 11 (.val (i.ps[j]).d)) h (i.ps[j]).d h := Ov (E_var rfl) (by cases i.ps[j] <;> rfl)
          have t := T_v (E_cmp (op := .inn) (Ov (E_blt vq b1) rfl) (Ov (E_var (i := 4) (x := .str smallS) rfl) rfl) ((cD_in _ _).trans b2))
          refine ⟨_, rfl, ?_, fun _ => E_var rfl⟩
          show (evT tb Φ _ (((lpE w c is os N C).set 7 (.val i.d)).set 11 (.val (i.ps[j]).d)) h).bind _ = _
          rw [t]
          cases (i.ps[j]).isR <;> rfl
      rw [z, filter_isR, e114]
    have a1 := X_set (i := 5) (E_bin (op := .add) (a := .var 5) (Ov (E_var (x := .lst (N.map sg)) rfl) rfl) (Ov g rfl) (lst_add (by
      have := sel_len (L := 114) hi
      rw [ln, ln]; show _ ≤ 10000000; omega)))
    rw [← List.map_append] at a1
    refine (execs_nx a1).trans ?_
    let E1 : Ev := (lpE w c is os (N ++ i.sel 114) C).set 7 (.val i.d)
    have n0 : ∀ C, Oc tb Φ (.idx (.var 7) (.cst (.int (0)))) ((lpE w c is os (N ++ i.sel 114) C).set 7 (.val i.d)) h (.str (nmK.getD i.k y_put)) h := fun C => Ov (E_idx (V7 _ _) E_cst (ins_0 i)) rfl
    have t1 : ∀ C, evT tb Φ (.v (.cmp .eq (.idx (.var 7) (.cst (.int (0)))) (.cst (.str y_store)))) ((lpE w c is os (N ++ i.sel 114) C).set 7 (.val i.d)) h = .ok (decide (i.k = 5)) h := fun C => T_v (E_cmp (n0 C) (Ov E_cst rfl) ((cD_eqs _ _).trans (congrArg some (nm_inj hi.1 (j := 5) (by decide)))))
    have t2 : ∀ C, evT tb Φ (.v (.cmp .eq (.idx (.var 7) (.cst (.int (0)))) (.cst (.str y_load)))) ((lpE w c is os (N ++ i.sel 114) C).set 7 (.val i.d)) h = .ok (decide (i.k = 6)) h := fun C => T_v (E_cmp (n0 C) (Ov E_cst rfl) ((cD_eqs _ _).trans (congrArg some (nm_inj hi.1 (j := 6) (by decide)))))
    obtain ⟨c5, c6, cn⟩ := sel_cell hi
    have hCl : (C.map sg).length < lim := by rw [ln]; show _ < 10000000; omega
    show MP.execs tb Φ _ ((lpE w c is os (N ++ i.sel 114) C).set 7 (.val i.d)) h = _
    by_cases k5 : i.k = 5
    · obtain ⟨cc, d1, d2⟩ := c5 k5
      have t1' := t1 C
      rw [decide_eq_true k5] at t1'
      have t2' := t2 (C ++ [cc])
      rw [decide_eq_false (by omega)] at t2'
      have i1 : idxD i.d (.int 1) = some (sg cc) := by
        show L2.atI (D.str (nmK.getD i.k y_put) :: i.ps.map Pt.d) ((1 : Nat) : Int) = _
        rw [d1]; rfl
      rw [d2]
      refine (execs_nx ((X_if t1').trans (execs_one (X_app (l := C.map sg) (E_idx (V7 _ _) E_cst i1) rfl hCl)))).trans ?_
      have em : C.map sg ++ [sg cc] = (C ++ [cc]).map sg := by rw [List.map_append]; rfl
      rw [em]
      exact (execs_nx (X_skip t2')).trans rfl
    · have t1' := t1 C
      rw [decide_eq_false k5] at t1'
      refine (execs_nx (X_skip t1')).trans ?_
      by_cases k6 : i.k = 6
      · obtain ⟨cc, d1, d2⟩ := c6 k6
        have t2' := t2 C
        rw [decide_eq_true k6] at t2'
        have i2 : idxD i.d (.int 2) = some (sg cc) := by
          show L2.atI (D.str (nmK.getD i.k y_put) :: i.ps.map Pt.d) ((2 : Nat) : Int) = _
          rw [d1]; rfl
        rw [d2]
        refine (execs_nx ((X_if t2').trans (execs_one (X_app (l := C.map sg) (E_idx (V7 _ _) E_cst i2) rfl hCl)))).trans ?_
        have em : C.map sg ++ [sg cc] = (C ++ [cc]).map sg := by rw [List.map_append]; rfl
        rw [em]; rfl
      · have t2' := t2 C
        rw [decide_eq_false k6] at t2'
        rw [cn k5 k6, List.append_nil]
        exact (execs_nx (X_skip t2')).trans rfl
  have lp : MP.exec tb Φ (.forr (.nm 7) (.val (.var 1)) (.cons (.set 5 (.bin .add (.var 5) (.lc [11] (.var 11) (.nm 11) (.val (.slc (.var 7) (.so (.cst (.int (1)))) .no)) (.cons (.v (.cmp .inn (.blt .str (.cons (.var 11) .nil)) (.var 4))) .nil)))) (.cons (.iff (.v (.cmp .eq (.idx (.var 7) (.cst (.int (0)))) (.cst (.str y_store)))) (.cons (.app 6 (.idx (.var 7) (.cst (.int (1))))) .nil) .nil) (.cons (.iff (.v (.cmp .eq (.idx (.var 7) (.cst (.int (0)))) (.cst (.str y_load)))) (.cons (.app 6 (.idx (.var 7) (.cst (.int (2))))) .nil) .nil) (.cons (.wip [7]) .nil))))) (lpE w c is os (is ++ os) []) h = .nx (lpE w c is os (is ++ os ++ c.flatMap (Ins.sel 114)) (c.flatMap (Ins.sel 109))) h := by
    have q := loop_seq (f := fun d e h => (match bindP (.nm 7) d e with
      | some e => MP.execs tb Φ (.cons (.set 5 (.bin .add (.var 5) (.lc [11] (.var 11) (.nm 11) (.val (.slc (.var 7) (.so (.cst (.int (1)))) .no)) (.cons (.v (.cmp .inn (.blt .str (.cons (.var 11) .nil)) (.var 4))) .nil)))) (.cons (.iff (.v (.cmp .eq (.idx (.var 7) (.cst (.int (0)))) (.cst (.str y_store)))) (.cons (.app 6 (.idx (.var 7) (.cst (.int (1))))) .nil) .nil) (.cons (.iff (.v (.cmp .eq (.idx (.var 7) (.cst (.int (0)))) (.cst (.str y_load)))) (.cons (.app 6 (.idx (.var 7) (.cst (.int (2))))) .nil) .nil) (.cons (.wip [7]) .nil)))) e h
      | none => .no)) (E := fun s : List Nat × List Nat => lpE w c is os s.1 s.2) (mk := Ins.d) (g := fun s i => (s.1 ++ i.sel 114, s.2 ++ i.sel 109)) (H := fun _ => h) (I := fun r s => (∀ i ∈ r, i.ok n) ∧ s.1.length + 4 * r.length ≤ 100000 ∧ s.2.length + 4 * r.length ≤ 100000) c (is ++ os, []) (fun i r s hI => by
        obtain ⟨h1, h2, h3⟩ := hI
        have hi := h1 i List.mem_cons_self
        have l1 := sel_len (L := 114) hi
        have l2 := sel_len (L := 109) hi
        rw [List.length_cons] at h2 h3
        exact ⟨step i s.1 s.2 hi (by omega) (by omega), fun j m => h1 j (List.mem_cons_of_mem _ m), by show (s.1 ++ i.sel 114).length + _ ≤ _; rw [List.length_append]; omega, by show (s.2 ++ i.sel 109).length + _ ≤ _; rw [List.length_append]; omega⟩) ⟨hc, by show (is ++ os).length + _ ≤ _; rw [List.length_append]; omega, by show 0 + _ ≤ _; omega⟩
    have fp : ∀ (c : List Ins) (s : List Nat × List Nat), c.foldl (fun s i => (s.1 ++ i.sel 114, s.2 ++ i.sel 109)) s = (s.1 ++ c.flatMap (Ins.sel 114), s.2 ++ c.flatMap (Ins.sel 109)) := by
      intro c
      induction c with
      | nil => intro s; simp
      | cons i r ih => intro s; rw [List.foldl_cons, ih, List.flatMap_cons, List.flatMap_cons, List.append_assoc, List.append_assoc]
    rw [fp] at q
    exact (X_for (ds := c.map Ins.d) rfl (I_val (x := .lst (c.map Ins.d)) (E_var rfl) (fun _ z => nomatch z) rfl)).trans (q.1.trans rfl)
  let N : List Nat := is ++ os ++ c.flatMap (Ins.sel 114)
  let C : List Nat := c.flatMap (Ins.sel 109)
  have hNS : ∀ a ∈ N, a < 1114112 := fun a ha => by
    refine smallC_lt ?_
    rcases List.mem_append.mp ha with ha | ha
    · rcases List.mem_append.mp ha with ha | ha
      · exact hiS a ha
      · exact hoS a ha
    · obtain ⟨i, hi, m⟩ := List.mem_flatMap.mp ha
      exact (sel_sub (hc i hi)).1 a m
  have hCS : ∀ a ∈ C, a < 1114112 := fun a ha => by
    obtain ⟨i, hi, m⟩ := List.mem_flatMap.mp ha
    exact greatC_lt ((sel_sub (hc i hi)).2 a m)
  let r4 : List (D × D) := [(.str y_width, .int (w : Int)), (.str y_code, .lst (c.map Ins.d)), (.str y_inputs, .lst (is.map sg)), (.str y_outputs, .lst (os.map sg))]
  have s8 : MP.exec tb Φ (.setN 8 (.dct (.cons (.cst (.str y_width)) (.var 0) (.cons (.cst (.str y_code)) (.blt .list (.cons (.var 1) .nil)) (.cons (.cst (.str y_inputs)) (.blt .list (.cons (.var 2) .nil)) (.cons (.cst (.str y_outputs)) (.blt .list (.cons (.var 3) .nil)) .nil)))))) (lpE w c is os N C) h = .nx ((lpE w c is os N C).set 8 (.own (.dct r4))) h :=
    X_setN (D_cons E_cst (E_var rfl) rfl (D_cons E_cst (E_blt (Ov (E_var rfl) rfl) rfl) rfl (D_cons E_cst (E_blt (Ov (E_var rfl) rfl) rfl) rfl (D_cons E_cst (E_blt (Ov (E_var rfl) rfl) rfl) rfl (congrArg (fun l => R.ok (D.dct l) h) (show dput (dput (dput (dput [] _ _) _ _) _ _) _ _ = r4 by kernel_rfl)))))) rfl
  have nm : ev tb Φ (.lc [9] (.var 9) (.nm 9) (.val (.var 4)) (.cons (.v (.cmp .inn (.var 9) (.var 5))) .nil)) ((lpE w c is os N C).set 8 (.own (.dct r4))) h = .ok (.lst ((rgs c is os).map sg)) h := by
    have z := ev_lc (tb := tb) (Φ := Φ) (ws := [9]) (elt := .var 9) (p := .nm 9) (it := .val (.var 4)) (cs := .cons (.v (.cmp .inn (.var 9) (.var 5))) .nil) (e := (lpE w c is os N C).set 8 (.own (.dct r4))) (h := h) (mk := sg) (l := smallC) (P := fun a => decide (a ∈ N)) (G := sg) rfl rfl (I_val (x := .str smallS) (E_var rfl) (fun _ z => nomatch z) rfl) (by decide) fun a ha => by
      have t := T_v (E_cmp (op := .inn) (Ov (E_var (e := ((lpE w c is os N C).set 8 (.own (.dct r4))).set 9 (.val (sg a))) (i := 9) (x := sg a) (tb := tb) (Φ := Φ) (h := h) rfl) rfl) (Ov (E_var (i := 5) (x := .lst (N.map sg)) rfl) rfl) ((cD_in _ _).trans (sg_in (smallC_lt ha) hNS)))
      refine ⟨_, rfl, ?_, fun _ => E_var rfl⟩
      show (evT tb Φ _ (((lpE w c is os N C).set 8 (.own (.dct r4))).set 9 (.val (sg a))) h).bind _ = _
      rw [t]
      cases decide (a ∈ N) <;> rfl
    rw [z]
    exact congrArg (fun l => R.ok (D.lst (l.map sg)) h) (pick_congr fun a => by
      show a ∈ is ++ os ++ c.flatMap (Ins.sel 114) ↔ a ∈ c.flatMap (Ins.sel 114) ++ is ++ os
      simp only [List.mem_append]
      grind)
  have p8 : MP.exec tb Φ (.put 8 (.cst (.str y_names)) (.lc [9] (.var 9) (.nm 9) (.val (.var 4)) (.cons (.v (.cmp .inn (.var 9) (.var 5))) .nil))) ((lpE w c is os N C).set 8 (.own (.dct r4))) h = .nx ((lpE w c is os N C).set 8 (.own (.dct (r4 ++ [(.str y_names, .lst ((rgs c is os).map sg))])))) h :=
    (X_put (u := .dct r4) (z := .dct (r4 ++ [(.str y_names, .lst ((rgs c is os).map sg))])) nm E_cst rfl (by kernel_rfl)).trans rfl
  have cl : ev tb Φ (.lc [10] (.var 10) (.nm 10) (.val (.upp (.var 4))) (.cons (.v (.cmp .inn (.var 10) (.var 6))) .nil)) ((lpE w c is os N C).set 8 (.own (.dct (r4 ++ [(.str y_names, .lst ((rgs c is os).map sg))])))) h = .ok (.lst ((cls c).map sg)) h := by
    have eu : ev tb Φ (.upp (.var 4)) ((lpE w c is os N C).set 8 (.own (.dct (r4 ++ [(.str y_names, .lst ((rgs c is os).map sg))])))) h = .ok (.str greatS) h := by
      have e4 : ev tb Φ (.var 4) ((lpE w c is os N C).set 8 (.own (.dct (r4 ++ [(.str y_names, .lst ((rgs c is os).map sg))])))) h = .ok (.str smallS) h := E_var rfl
      have l4 : smallS.length ≤ 5592405 := by decide
      simp only [ev] at e4
      simp only [ev, e4, R.bind, if_pos l4, up_small]
    have z := ev_lc (tb := tb) (Φ := Φ) (ws := [10]) (elt := .var 10) (p := .nm 10) (it := .val (.upp (.var 4))) (cs := .cons (.v (.cmp .inn (.var 10) (.var 6))) .nil) (e := (lpE w c is os N C).set 8 (.own (.dct (r4 ++ [(.str y_names, .lst ((rgs c is os).map sg))])))) (h := h) (mk := sg) (l := greatC) (P := fun a => decide (a ∈ C)) (G := sg) rfl rfl (I_val (x := .str greatS) eu (fun _ z => nomatch z) rfl) (by decide) fun a ha => by
      have t := T_v (E_cmp (op := .inn) (Ov (E_var (e := ((lpE w c is os N C).set 8 (.own (.dct (r4 ++ [(.str y_names, .lst ((rgs c is os).map sg))])))).set 10 (.val (sg a))) (i := 10) (x := sg a) (tb := tb) (Φ := Φ) (h := h) rfl) rfl) (Oo (i := 6) (x := .lst (C.map sg)) rfl) ((cD_in _ _).trans (sg_in (greatC_lt ha) hCS)))
      refine ⟨_, rfl, ?_, fun _ => E_var rfl⟩
      show (evT tb Φ _ (((lpE w c is os N C).set 8 (.own (.dct (r4 ++ [(.str y_names, .lst ((rgs c is os).map sg))])))).set 10 (.val (sg a))) h).bind _ = _
      rw [t]
      cases decide (a ∈ C) <;> rfl
    rw [z]; rfl
  have p9 : MP.exec tb Φ (.put 8 (.cst (.str y_cells)) (.lc [10] (.var 10) (.nm 10) (.val (.upp (.var 4))) (.cons (.v (.cmp .inn (.var 10) (.var 6))) .nil))) ((lpE w c is os N C).set 8 (.own (.dct (r4 ++ [(.str y_names, .lst ((rgs c is os).map sg))])))) h = .nx ((lpE w c is os N C).set 8 (.own (lpD w c is os))) h :=
    (X_put (u := .dct (r4 ++ [(.str y_names, .lst ((rgs c is os).map sg))])) (z := lpD w c is os) cl E_cst rfl (by kernel_rfl)).trans rfl
  unfold B_law_piece
  exact (execs_nx (show MP.exec tb Φ (.set 4 (.cst (.str y_abcdefghijklmnopqrstuvwxyz))) E0 h = .nx (E0.set 4 (.val (.str smallS))) h from rfl)).trans ((execs_nx s5).trans ((execs_nx (show MP.exec tb Φ (.setN 6 (.lst .nil)) ((E0.set 4 (.val (.str smallS))).set 5 (.val (.lst ((is ++ os).map sg)))) h = .nx (lpE w c is os (is ++ os) []) h from rfl)).trans ((execs_nx lp).trans ((execs_nx (show MP.exec tb Φ (.wip [7]) (lpE w c is os N C) h = .nx (lpE w c is os N C) h from rfl)).trans ((execs_nx s8).trans ((execs_nx p8).trans ((execs_nx p9).trans ((execs_nx (show MP.exec tb Φ (.frz 8) ((lpE w c is os N C).set 8 (.own (lpD w c is os))) h = .nx ((lpE w c is os N C).set 8 (.val (lpD w c is os))) h from rfl)).trans (execs_rt (X_ret (E_var rfl)))))))))))
end
end MP

set_option maxRecDepth 100000
set_option maxHeartbeats 4000000
/-! MP41: drawn letters, what is equal to itself, rooms. -/
namespace MP
open PySem PySem.Spec PyProof.Rows L2 SrtO
theorem nodup_len {α : Type} [DecidableEq α] : ∀ {l m : List α}, l.Nodup → (∀ a ∈ l, a ∈ m) → l.length ≤ m.length
  | [], _, _, _ => by simp
  | a :: r, m, nd, h => by
    obtain ⟨h1, h2⟩ := List.nodup_cons.mp nd
    have ha := h a List.mem_cons_self
    have := nodup_len (m := m.erase a) h2 fun b hb => (List.mem_erase_of_ne (fun z => h1 (by rw [← z]; exact hb))).mpr (h b (List.mem_cons_of_mem _ hb))
    rw [List.length_erase_of_mem ha] at this
    have : 0 < m.length := List.length_pos_of_mem ha
    rw [List.length_cons]; omega
theorem pick_nodup {U l : List Nat} (hU : U.Pairwise (· < ·)) : (pick U l).Nodup := (hU.sublist List.filter_sublist).imp fun {a b} h => by omega
theorem pick_len {U l LS : List Nat} (hU : U.Pairwise (· < ·)) (h : ∀ a ∈ l, a ∈ LS) : (pick U l).length ≤ LS.length :=
  nodup_len ((hU.sublist List.filter_sublist).imp fun {a b} h => by omega) fun a ha => h a (of_decide_eq_true (List.mem_filter.mp ha).2)
theorem room_ok {c : List Ins} {is os LS : List Nat} (h1 : ∀ i ∈ c, ∀ a ∈ i.sel 114, a ∈ LS) (h2 : ∀ i ∈ c, ∀ a ∈ i.sel 109, a = 77) (hi : ∀ a ∈ is, a ∈ LS) (ho : ∀ a ∈ os, a ∈ LS) : (rgs c is os).length + (cls c).length ≤ LS.length + 1 := by
  have a1 : (rgs c is os).length ≤ LS.length := pick_len smallC_up fun a ha => by
    rcases List.mem_append.mp ha with ha | ha
    · rcases List.mem_append.mp ha with ha | ha
      · obtain ⟨i, m, q⟩ := List.mem_flatMap.mp ha
        exact h1 i m a q
      · exact hi a ha
    · exact ho a ha
  have a2 : (cls c).length ≤ [77].length := pick_len greatC_up fun a ha => by
    obtain ⟨i, m, q⟩ := List.mem_flatMap.mp ha
    rw [h2 i m a q]; simp
  simp only [List.length_cons, List.length_nil] at a2
  omega
theorem cut0 {α : Type} (l : List α) (j : Nat) : cutL l none (some (j : Int)) = l.take j := by
  unfold cutL
  rw [HT.sIx_none, HT.sIx_nat, List.drop_zero, Nat.sub_zero]
  rw [List.take_eq_take_iff]; omega
theorem eqDL_refl {α : Type} {f : α → D} (h : ∀ a, eqD (f a) (f a) = true) : ∀ l : List α, eqDL (l.map f) (l.map f) = true
  | [] => rfl
  | a :: r => by
    show (eqD (f a) (f a) && eqDL (r.map f) (r.map f)) = true
    rw [h, eqDL_refl h r]; rfl
theorem eqD_sg (c : Nat) : eqD (sg c) (sg c) = true := by rw [sg_eq]; exact decide_eq_true rfl
theorem eqD_pt (q : Pt) : eqD q.d q.d = true := by
  cases q with
  | r c => exact eqD_sg c
  | m c => exact eqD_sg c
  | n k => exact decide_eq_true rfl
  | s x => exact decide_eq_true rfl
theorem eqD_ins (i : Ins) : eqD i.d i.d = true := by
  show (decide (_ = _) && eqDL (i.ps.map Pt.d) (i.ps.map Pt.d)) = true
  rw [eqDL_refl eqD_pt, decide_eq_true rfl]; rfl
theorem fitL_map {α : Type} {f : α → D} {k : Nat} : ∀ {l : List α}, (∀ a ∈ l, fit (f a) k = true) → fitL (l.map f) k = true
  | [], _ => rfl
  | a :: r, h => by
    show (fit (f a) k && fitL (r.map f) k) = true
    rw [h a List.mem_cons_self, fitL_map fun b m => h b (List.mem_cons_of_mem _ m)]; rfl
theorem fit_pt {q : Pt} {n l k : Nat} (h : fitP n q l = true) : fit q.d k = true := by
  cases q with
  | r c => exact sg_fit (smallC_lt (of_decide_eq_true (Bool.and_eq_true_iff.mp (show (l == 114 && decide (c ∈ smallC)) = true from h)).2)) k
  | m c => exact sg_fit (greatC_lt (of_decide_eq_true (Bool.and_eq_true_iff.mp (show (l == 109 && decide (c ∈ greatC)) = true from h)).2)) k
  | n j => rfl
  | s x =>
    have hc : x ∈ signK := of_decide_eq_true (Bool.and_eq_true_iff.mp (show (l == 115 && decide (x ∈ signK)) = true from h)).2
    have : signK.all PySem.PyData.strOk = true := by kernel_rfl
    exact List.all_eq_true.mp this x hc
theorem fit_ins {i : Ins} {n k : Nat} (h : i.ok n) : fit i.d (k + 1) = true := by
  have hl := fitPs_len h.2
  have a1 := List.all_eq_true.mp (show nmK.all PySem.PyData.strOk = true by kernel_rfl)
  have a2 : nmK.getD i.k y_put ∈ nmK := by
    have : ∀ k < 11, nmK.getD k y_put ∈ nmK := by decide
    exact this _ h.1
  show (PySem.PyData.strOk (nmK.getD i.k y_put) && fitL (i.ps.map Pt.d) k) = true
  rw [a1 _ a2, fitL_map fun q hq => by
    obtain ⟨j, hj, rfl⟩ := List.getElem_of_mem hq
    exact fit_pt (fitPs_get h.2 j hj (by omega))]
  rfl
section
variable {tb : Tb} {Φ : Nat → List D → MH → R D} {e : Ev} {h : MH}
/-- some of the letters, by a test that says yes or no -/
theorem E_some {ls : Str} (hl : ls.length ≤ lim) {j i : Nat} {t : T} (h3 : e[j]? = some (.val (.str ls))) (hj : j ≠ i) (hi : i < e.length) (hno : noOwn e [i] = true) (ht : ∀ c ∈ ls.cps.toList, ∃ b : Bool, evT tb Φ t ((wipeE e [i]).set i (.val (sg c))) h = .ok b h) :
    ∃ P : Nat → Bool, ev tb Φ (.lc [i] (.var i) (.nm i) (.val (.var j)) (.cons t .nil)) e h = .ok (.lst ((ls.cps.toList.filter P).map sg)) h := by
  have hb : ∀ c : Nat, ∃ b : Bool, c ∈ ls.cps.toList → evT tb Φ t ((wipeE e [i]).set i (.val (sg c))) h = .ok b h := fun c => by
    by_cases m : c ∈ ls.cps.toList
    · obtain ⟨b, q⟩ := ht c m
      exact ⟨b, fun _ => q⟩
    · exact ⟨false, fun z => absurd z m⟩
  let P (c : Nat) : Bool := Classical.choose (hb c)
  have hP : ∀ c, c ∈ ls.cps.toList → evT tb Φ t ((wipeE e [i]).set i (.val (sg c))) h = .ok (P c) h := fun c => Classical.choose_spec (hb c)
  refine ⟨P, ev_lc (mk := sg) (l := ls.cps.toList) (P := P) (G := sg) hno (by simp [patIn]) (I_val (x := .str ls) (E_var h3) (fun _ z => nomatch z) rfl) hl fun c hc => ⟨_, rfl, ?_, fun _ => E_var ?_⟩⟩
  · simp only [evC, hP c hc, R.bind]
    cases P c <;> rfl
  · rw [List.getElem?_set_self]
    show i < (e.set i .no).length
    rw [List.length_set]; exact hi
/-- a row turned -/
theorem E_turn {l : List Nat} {j i : Nat} (hn : l.length ≤ 1000) (h3 : e[j]? = some (.val (.lst (l.map sg)))) (hj : j ≠ i) (hi : i < e.length) (hno : noOwn e [i] = true) :
    ev tb Φ (.lc [i] (.idx (.var j) (.bin .sub (.bin .sub (.blt .len (.cons (.var j) .nil)) (.cst (.int (1)))) (.var i))) (.nm i) (.rng (.blt .len (.cons (.var j) .nil))) .nil) e h = .ok (.lst (l.reverse.map sg)) h := by
  have ln : bltD .len [.lst (l.map sg)] = some (.int (l.length : Int)) := by show some (D.int ((l.map sg).length : Int)) = _; rw [List.length_map]
  have z := ev_lc (tb := tb) (Φ := Φ) (ws := [i]) (elt := .idx (.var j) (.bin .sub (.bin .sub (.blt .len (.cons (.var j) .nil)) (.cst (.int (1)))) (.var i))) (p := .nm i) (it := .rng (.blt .len (.cons (.var j) .nil))) (cs := .nil) (e := e) (h := h) (mk := fun (a : Nat) => D.int (a : Int)) (l := List.range l.length) (P := fun _ => true) (G := fun a => sg (l.getD (l.length - 1 - a) 0)) hno (by simp [patIn]) (I_rng (E_blt (Ov (E_var h3) rfl) ln) (by omega)) (by rw [List.length_range]; show _ ≤ 10000000; omega) fun a ha => by
    have ha := List.mem_range.mp ha
    have g3 : ((wipeE e [i]).set i (.val (.int (a : Int))))[j]? = some (.val (.lst (l.map sg))) := by
      rw [List.getElem?_set_ne (fun q => hj q.symm)]
      show (e.set i .no)[j]? = _
      rw [List.getElem?_set_ne (fun q => hj q.symm)]; exact h3
    have gi : ((wipeE e [i]).set i (.val (.int (a : Int))))[i]? = some (.val (.int (a : Int))) := by
      rw [List.getElem?_set_self]
      show i < (e.set i .no).length
      rw [List.length_set]; exact hi
    refine ⟨_, rfl, rfl, fun _ => E_idx (Ov (E_var g3) rfl) (E_bin (z := .int ((l.length - 1 - a : Nat) : Int)) (Ov (E_bin (Ov (E_blt (Ov (E_var g3) rfl) ln) rfl) (Ov E_cst rfl) rfl) rfl) (Ov (E_var gi) rfl) ?_) ?_⟩
    · show some (D.int ((l.length : Int) - 1 - (a : Int))) = _
      congr 2; omega
    · rw [sg_idx (by omega)]
      congr 2
      rw [List.getD_eq_getElem?_getD, List.getElem?_eq_getElem (by omega)]; rfl
  rw [z, List.filter_eq_self.mpr fun _ _ => rfl]
  congr 2
  refine List.ext_getElem (by simp) fun a h1 h2 => ?_
  have ha : a < l.length := by simpa using h1
  simp only [List.getElem_map, List.getElem_range, List.getElem_reverse]
  congr 1
  rw [List.getD_eq_getElem?_getD, List.getElem?_eq_getElem (by omega)]; rfl
end
end MP

set_option maxRecDepth 100000
set_option maxHeartbeats 4000000
/-! MP42: standings, states. -/
namespace MP
open PySem PySem.Spec PyProof.Rows L2 SrtO
/-- 1 1 ['_law_width'] -/
def B_law_size : Ss := (.cons (.ret (.idx (.lst (.cons (.cst (.int (1))) (.cons (.cst (.int (2))) (.cons (.cst (.int (4))) (.cons (.cst (.int (8))) .nil))))) (.var 0))) .nil)
/-- 1 2 ['_law_width', '_law_k'] -/
def B_law_words (c_law_size : Nat) : Ss := (.cons (.ret (.lc [1] (.var 1) (.nm 1) (.rng (.call c_law_size (.cons (.var 0) .nil))) .nil)) .nil)
/-- 4 5 ['_law_draws_here', '_law_at', '_law_members', '_law_count', '_law_k'] -/
def B_law_held : Ss := (.cons (.ret (.blt .tuple (.cons (.lc [4] (.idx (.var 2) (.bin .mod (.blt .int (.cons (.idx (.var 0) (.bin .add (.var 1) (.var 4))) .nil)) (.blt .len (.cons (.var 2) .nil)))) (.nm 4) (.rng (.var 3)) .nil) .nil))) .nil)
/-- 2 4 ['_law_piece_here', '_law_state', '_law_standing', '_law_content'] -/
def B_law_is_state (c_law_is_standing : Nat) : Ss := (.cons (.iff (.or (.not (.v (.isi (.var 1) .tuple))) (.v (.cmp .ne (.blt .len (.cons (.var 1) .nil)) (.cst (.int (3)))))) (.cons (.ret (.cst (.bl false))) .nil) .nil) (.cons (.iff (.or (.not (.v (.isi (.idx (.var 1) (.cst (.int (0)))) .int))) (.or (.v (.isi (.idx (.var 1) (.cst (.int (0)))) .bool)) (.not (.v (.chn .le .le (.cst (.int (0))) (.idx (.var 1) (.cst (.int (0)))) (.blt .len (.cons (.idx (.var 0) (.cst (.str y_code))) .nil))))))) (.cons (.ret (.cst (.bl false))) .nil) .nil) (.cons (.iff (.or (.not (.v (.isi (.idx (.var 1) (.cst (.int (1)))) .tuple))) (.not (.v (.isi (.idx (.var 1) (.cst (.int (2)))) .tuple)))) (.cons (.ret (.cst (.bl false))) .nil) .nil) (.cons (.iff (.or (.v (.cmp .ne (.blt .len (.cons (.idx (.var 1) (.cst (.int (1)))) .nil)) (.blt .len (.cons (.idx (.var 0) (.cst (.str y_names))) .nil)))) (.v (.cmp .ne (.blt .len (.cons (.idx (.var 1) (.cst (.int (2)))) .nil)) (.blt .len (.cons (.idx (.var 0) (.cst (.str y_cells))) .nil))))) (.cons (.ret (.cst (.bl false))) .nil) .nil) (.cons (.forr (.nm 2) (.val (.idx (.var 1) (.cst (.int (1))))) (.cons (.iff (.not (.v (.call c_law_is_standing (.cons (.idx (.var 0) (.cst (.str y_width))) (.cons (.var 2) .nil))))) (.cons (.ret (.cst (.bl false))) .nil) .nil) (.cons (.wip [2]) .nil))) (.cons (.wip [2]) (.cons (.forr (.nm 3) (.val (.idx (.var 1) (.cst (.int (2))))) (.cons (.iff (.and (.v (.cmp .notn (.var 3) (.cst .non))) (.not (.v (.call c_law_is_standing (.cons (.idx (.var 0) (.cst (.str y_width))) (.cons (.var 3) .nil)))))) (.cons (.ret (.cst (.bl false))) .nil) .nil) (.cons (.wip [3]) .nil))) (.cons (.wip [3]) (.cons (.ret (.cst (.bl true))) .nil)))))))))
/-- 2 2 ['_law_width', '_law_standing'] -/
def B_law_is_standing (c_law_is_word : Nat) : Ss := (.cons (.ret (.orr (.cmp .eq (.var 1) (.cst (.str y_any))) (.orr (.cmp .eq (.var 1) (.cst (.str y_bad))) (.call c_law_is_word (.cons (.var 0) (.cons (.var 1) .nil)))))) .nil)
/-- 2 2 ['_law_width', '_law_word'] -/
def B_law_is_word (c_law_size : Nat) : Ss := (.cons (.ret (.andd (.isi (.var 1) .int) (.andd (.nott (.isi (.var 1) .bool)) (.chn .le .lt (.cst (.int (0))) (.var 1) (.call c_law_size (.cons (.var 0) .nil)))))) .nil)
/-- 3 3 ['_law_held_here', '_law_at', '_law_standing'] -/
def B_law_put : Ss := (.cons (.ret (.bin .add (.bin .add (.slc (.var 0) .no (.so (.var 1))) (.tup (.cons (.var 2) .nil))) (.slc (.var 0) (.so (.bin .add (.var 1) (.cst (.int (1))))) .no))) .nil)
/-- 2 6 ['piece', 'start', 'given', 'k', 'x', 'm'] -/
def B_first_state : Ss := (.cons (.set 2 (.dc [3] (.idx (.att (.var 0) y_inputs) (.var 3)) (.idx (.var 1) (.var 3)) (.nm 3) (.rng (.blt .len (.cons (.att (.var 0) y_inputs) .nil))) .nil)) (.cons (.ret (.tup (.cons (.cst (.int (0))) (.cons (.blt .tuple (.cons (.lc [4] (.bm .get (.var 2) (.cons (.var 4) (.cons (.cst (.int (0))) .nil))) (.nm 4) (.val (.att (.var 0) y_registers)) .nil) .nil)) (.cons (.blt .tuple (.cons (.lc [5] (.cst .non) (.nm 5) (.val (.att (.var 0) y_cells)) .nil) .nil)) .nil))))) .nil))
/-- 2 6 ['_law_piece_here', '_law_start', '_law_held_here', '_law_x', '_law_standing', '_law_m'] -/
def B_law_first : Ss := (.cons (.setN 2 (.lst .nil)) (.cons (.forr (.nm 3) (.val (.idx (.var 0) (.cst (.str y_names)))) (.cons (.set 4 (.cst (.int (0)))) (.cons (.iff (.v (.cmp .inn (.var 3) (.idx (.var 0) (.cst (.str y_inputs))))) (.cons (.set 4 (.idx (.var 1) (.bm .lindex (.idx (.var 0) (.cst (.str y_inputs))) (.cons (.var 3) .nil)))) .nil) .nil) (.cons (.app 2 (.var 4)) (.cons (.wip [3, 4]) .nil))))) (.cons (.wip [3, 4]) (.cons (.ret (.tup (.cons (.cst (.int (0))) (.cons (.blt .tuple (.cons (.var 2) .nil)) (.cons (.blt .tuple (.cons (.lc [5] (.cst .non) (.nm 5) (.val (.idx (.var 0) (.cst (.str y_cells)))) .nil) .nil)) .nil))))) .nil))))
/-- 3 3 ['piece', 'state', 'standing'] -/
def B_answered (c_with_register : Nat) : Ss := (.cons (.ret (.call c_with_register (.cons (.var 0) (.cons (.var 1) (.cons (.idx (.idx (.att (.var 0) y_code) (.idx (.var 1) (.cst (.int (0))))) (.cst (.int (1)))) (.cons (.var 2) .nil)))))) .nil)
/-- 3 4 ['_law_piece_here', '_law_state', '_law_standing', '_law_row_here'] -/
def B_law_answered (c_law_put : Nat) : Ss := (.cons (.set 3 (.idx (.idx (.var 0) (.cst (.str y_code))) (.idx (.var 1) (.cst (.int (0)))))) (.cons (.ret (.tup (.cons (.bin .add (.idx (.var 1) (.cst (.int (0)))) (.cst (.int (1)))) (.cons (.call c_law_put (.cons (.idx (.var 1) (.cst (.int (1)))) (.cons (.bm .lindex (.idx (.var 0) (.cst (.str y_names))) (.cons (.idx (.var 3) (.cst (.int (1)))) .nil)) (.cons (.var 2) .nil)))) (.cons (.idx (.var 1) (.cst (.int (2)))) .nil))))) .nil))
/-- 4 5 ['piece', 'state', 'letter', 'standing', 'at'] -/
def B_with_register : Ss := (.cons (.set 4 (.bm .tindex (.att (.var 0) y_registers) (.cons (.var 2) .nil))) (.cons (.ret (.tup (.cons (.bin .add (.idx (.var 1) (.cst (.int (0)))) (.cst (.int (1)))) (.cons (.bin .add (.bin .add (.slc (.idx (.var 1) (.cst (.int (1)))) .no (.so (.var 4))) (.tup (.cons (.var 3) .nil))) (.slc (.idx (.var 1) (.cst (.int (1)))) (.so (.bin .add (.var 4) (.cst (.int (1))))) .no)) (.cons (.idx (.var 1) (.cst (.int (2)))) .nil))))) .nil))
def St (w : Nat) (d : D) : Prop := (∃ k : Nat, k < 2 ^ w ∧ d = .int (k : Int)) ∨ d = .str y_any ∨ d = .str y_bad
theorem St.view {w : Nat} {d : D} (h : St w d) (H : MH) : view d H = some d := by
  rcases h with ⟨k, _, rfl⟩ | rfl | rfl <;> rfl
theorem any_ok : PySem.PyData.strOk y_any = true := by kernel_rfl
theorem bad_ok : PySem.PyData.strOk y_bad = true := by kernel_rfl
theorem St.fit {w : Nat} {d : D} (h : St w d) (k : Nat) : fit d k = true := by
  rcases h with ⟨k, _, rfl⟩ | rfl | rfl
  · rfl
  · exact any_ok
  · exact bad_ok
theorem St.eqD {w : Nat} {d : D} (h : St w d) : eqD d d = true := by
  rcases h with ⟨k, _, rfl⟩ | rfl | rfl
  · exact decide_eq_true (p := (k : Int) = (k : Int)) rfl
  · exact decide_eq_true (p := y_any = y_any) rfl
  · exact decide_eq_true (p := y_bad = y_bad) rfl
/-- a cell holds one or nothing -/
def Cl (w : Nat) (d : D) : Prop := d = .non ∨ St w d
theorem Cl.view {w : Nat} {d : D} (h : Cl w d) (H : MH) : MP.view d H = some d := by
  rcases h with rfl | h
  · rfl
  · exact h.view H
theorem Cl.fit {w : Nat} {d : D} (h : Cl w d) (k : Nat) : MP.fit d k = true := by
  rcases h with rfl | h
  · rfl
  · exact h.fit k
theorem Cl.eqD {w : Nat} {d : D} (h : Cl w d) : MP.eqD d d = true := by
  rcases h with rfl | h
  · rfl
  · exact h.eqD
/-- where the law's own defs stand -/
structure StI where
  size : Nat
  words : Nat
  held : Nat
  isState : Nat
  isSt : Nat
  isWord : Nat
structure StF (tb : Tb) (F : Nat → Option Fd) (p : StI) : Prop where
  size : F p.size = some ⟨1, 1, B_law_size, none, false⟩
  words : F p.words = some ⟨1, 2, B_law_words p.size, none, false⟩
  held : F p.held = some ⟨4, 5, B_law_held, none, false⟩
  isState : F p.isState = some ⟨2, 4, B_law_is_state p.isSt, none, false⟩
  isSt : F p.isSt = some ⟨2, 2, B_law_is_standing p.isWord, none, false⟩
  isWord : F p.isWord = some ⟨2, 2, B_law_is_word p.size, none, false⟩
  dSize : ∀ n, tb.dfl p.size n = []
  dIsSt : ∀ n, tb.dfl p.isSt n = []
  dIsWord : ∀ n, tb.dfl p.isWord n = []
section
variable {tb : Tb} {F : Nat → Option Fd} {p : StI}
theorem lsize_ok (P : StF tb F p) (k : Nat) (h : MH) {w : Nat} (hw : w ≤ 3) : callN tb F (k + 1) p.size [.int (w : Int)] h = .ok (.int ((2 ^ w : Nat) : Int)) h := by
  rcases (show w = 0 ∨ w = 1 ∨ w = 2 ∨ w = 3 by omega) with rfl | rfl | rfl | rfl <;> exact callN_of P.size rfl rfl (run_of (b := B_law_size) rfl (e := [_]) rfl rfl rfl)
theorem lwords_ok (P : StF tb F p) (k : Nat) (h : MH) {w : Nat} (hw : w ≤ 3) : callN tb F (k + 2) p.words [.int (w : Int)] h = .ok (.lst ((List.range (2 ^ w)).map fun (j : Nat) => D.int (j : Int))) h := by
  have h8 : 2 ^ w ≤ 8 := by rcases (show w = 0 ∨ w = 1 ∨ w = 2 ∨ w = 3 by omega) with rfl | rfl | rfl | rfl <;> decide
  refine callN_of P.words rfl rfl (run_of (b := B_law_words p.size) rfl (e := [.val (.int (w : Int)), .no]) rfl rfl (execs_rt (X_ret ?_)))
  have z := ev_lc (tb := tb) (Φ := callN tb F (k + 1)) (ws := [1]) (elt := .var 1) (p := .nm 1) (it := .rng (.call p.size (.cons (.var 0) .nil))) (cs := .nil) (e := [.val (.int (w : Int)), .no]) (h := h) (mk := fun (j : Nat) => D.int (j : Int)) (l := List.range (2 ^ w)) (P := fun _ => true) (G := fun j => .int (j : Int)) rfl rfl (I_rng (E_call (E_cons (E_var rfl) E_nil) P.dSize (lsize_ok P k h hw)) (by omega)) (by rw [List.length_range]; show _ ≤ 10000000; omega) fun j hj => ⟨_, rfl, rfl, fun _ => E_var rfl⟩
  rw [List.filter_eq_self.mpr fun _ _ => rfl] at z
  exact z
theorem isword_ok (P : StF tb F p) (k : Nat) (h : MH) {w : Nat} (hw : w ≤ 3) {a : Nat} (ha : a < 2 ^ w) : callN tb F (k + 2) p.isWord [.int (w : Int), .int (a : Int)] h = .ok (.bl true) h := by
  refine callN_of P.isWord rfl rfl (run_of (b := B_law_is_word p.size) rfl (e := [.val (.int (w : Int)), .val (.int (a : Int))]) rfl rfl (execs_rt (X_ret ?_)))
  exact E_and1 (E_isi (Ov (E_var rfl) rfl) rfl) (E_and1 (E_nott (t := false) (E_isi (Ov (E_var rfl) rfl) rfl)) (E_chn (Ov E_cst rfl) (Ov (E_var rfl) rfl) (Ov (E_call (E_cons (E_var rfl) E_nil) P.dSize (lsize_ok P k h hw)) rfl) ((cD_lei _ _).trans (congrArg some (decide_eq_true (by omega)))) ((cD_lti _ _).trans (congrArg some (decide_eq_true (by omega))))))
theorem isst_ok (P : StF tb F p) (k : Nat) (h : MH) {w : Nat} (hw : w ≤ 3) {d : D} (hd : St w d) : callN tb F (k + 3) p.isSt [.int (w : Int), d] h = .ok (.bl true) h := by
  refine callN_of P.isSt rfl rfl (run_of (b := B_law_is_standing p.isWord) rfl (e := [.val (.int (w : Int)), .val d]) rfl rfl (execs_rt (X_ret ?_)))
  have i1 : ∀ (a : Nat) (s : Str), PySem.PyData.strOk s = true → cmpD .eq (.int (a : Int)) (.str s) = some false := fun a s hs => by
    show (if fit (.int (a : Int)) 60 && PySem.PyData.strOk s then some false else none) = _
    rw [hs]; rfl
  rcases hd with ⟨a, ha, rfl⟩ | rfl | rfl
  · exact E_or0 (E_cmp (Ov (E_var rfl) rfl) (Ov E_cst rfl) (i1 a _ any_ok)) (E_or0 (E_cmp (Ov (E_var rfl) rfl) (Ov E_cst rfl) (i1 a _ bad_ok)) (E_call (E_cons (E_var rfl) (E_cons (E_var rfl) E_nil)) P.dIsWord (isword_ok P k h hw ha)))
  · exact E_or1 (E_cmp (Ov (E_var rfl) rfl) (Ov E_cst rfl) rfl)
  · exact E_or0 (E_cmp (Ov (E_var rfl) rfl) (Ov E_cst rfl) (by kernel_rfl)) (E_or1 (E_cmp (Ov (E_var rfl) rfl) (Ov E_cst rfl) rfl))
/-- a row of drawn ones -/
theorem held_ok (P : StF tb F p) (k : Nat) (h : MH) {ds : List D} (dr : Dr ds) {a n : Nat} (ha : a + n ≤ ds.length) (hn : n ≤ 1000000) {ms : List D} (hm : 0 < ms.length) : ∃ R : List D, R.length = n ∧ (∀ d ∈ R, d ∈ ms) ∧ callN tb F (k + 1) p.held [.lst ds, .int (a : Int), .lst ms, .int (n : Int)] h = .ok (.tup R) h := by
  have hr : ∀ j : Nat, ∃ d : D, d ∈ ms ∧ (j < n → ∃ x : Nat, ds[a + j]? = some (.int (x : Int)) ∧ ms[x % ms.length]? = some d) := fun j => by
    by_cases hj : j < n
    · obtain ⟨x, gx, x0, _⟩ := dr.get (i := a + j) (by omega)
      have hlt : x.toNat % ms.length < ms.length := Nat.mod_lt _ hm
      exact ⟨ms[x.toNat % ms.length], List.getElem_mem _, fun _ => ⟨x.toNat, by rw [gx, Int.toNat_of_nonneg x0], List.getElem?_eq_getElem hlt⟩⟩
    · exact ⟨ms[0], List.getElem_mem _, fun z => absurd z hj⟩
  let g (j : Nat) : D := Classical.choose (hr j)
  have hg : ∀ j, g j ∈ ms ∧ (j < n → ∃ x : Nat, ds[a + j]? = some (.int (x : Int)) ∧ ms[x % ms.length]? = some (g j)) := fun j => Classical.choose_spec (hr j)
  refine ⟨(List.range n).map g, by rw [List.length_map, List.length_range], fun d hd => ?_, callN_of P.held rfl rfl (run_of (b := B_law_held) rfl (e := [.val (.lst ds), .val (.int (a : Int)), .val (.lst ms), .val (.int (n : Int)), .no]) rfl rfl (execs_rt (X_ret ?_)))⟩
  · obtain ⟨j, _, rfl⟩ := List.mem_map.mp hd
    exact (hg j).1
  · have z := ev_lc (tb := tb) (Φ := callN tb F k) (ws := [4]) (elt := .idx (.var 2) (.bin .mod (.blt .int (.cons (.idx (.var 0) (.bin .add (.var 1) (.var 4))) .nil)) (.blt .len (.cons (.var 2) .nil)))) (p := .nm 4) (it := .rng (.var 3)) (cs := .nil) (e := [.val (.lst ds), .val (.int (a : Int)), .val (.lst ms), .val (.int (n : Int)), .no]) (h := h) (mk := fun (j : Nat) => D.int (j : Int)) (l := List.range n) (P := fun _ => true) (G := g) rfl rfl (I_rng (E_var rfl) (by omega)) (by rw [List.length_range]; show n ≤ 10000000; omega) fun j hj => by
      obtain ⟨x, gx, gm⟩ := (hg j).2 (List.mem_range.mp hj)
      refine ⟨_, rfl, rfl, fun _ => E_idx (Ov (E_var rfl) rfl) (E_modN (r := x) (n := ms.length) (E_idx (Ov (E_var rfl) rfl) (E_bin (Ov (E_var rfl) rfl) (Ov (E_var rfl) rfl) rfl) ?_) (E_blt (Ov (E_var rfl) rfl) rfl) hm) ?_⟩
      · show L2.atI ds ((a : Int) + (j : Int)) = _
        rw [← Int.natCast_add, atI_nat (by have := List.mem_range.mp hj; omega)]
        exact gx
      · show L2.atI ms ((x % ms.length : Nat) : Int) = _
        rw [atI_nat (Nat.mod_lt _ hm)]
        exact gm
    rw [List.filter_eq_self.mpr fun _ _ => rfl] at z
    exact E_blt (Ov z rfl) rfl
def stD (p : Nat) (R C : List D) : D := .tup [.int (p : Int), .tup R, .tup C]
structure StateOk (w : Nat) (c : List Ins) (is os : List Nat) (p : Nat) (R C : List D) : Prop where
  p : p ≤ c.length
  nR : R.length = (rgs c is os).length
  R : ∀ d ∈ R, St w d
  nC : C.length = (cls c).length
  C : ∀ d ∈ C, Cl w d
theorem isstate_ok (P : StF tb F p) (k : Nat) (h : MH) {w : Nat} (hw : w ≤ 3) {c : List Ins} {is os : List Nat} {q : Nat} {R C : List D} (O : StateOk w c is os q R C) : callN tb F (k + 4) p.isState [lpD w c is os, stD q R C] h = .ok (.bl true) h := by
  let Φ := callN tb F (k + 3)
  let E (s2 s3 : Slot) : Ev := [.val (lpD w c is os), .val (stD q R C), s2, s3]
  refine callN_of P.isState rfl rfl (run_of (b := B_law_is_state p.isSt) rfl (e := E .no .no) rfl rfl ?_)
  have hp := O.p
  have v1 : ∀ s2 s3, Oc tb Φ (.var 1) (E s2 s3) h (stD q R C) h := fun _ _ => Ov (E_var rfl) rfl
  have i0 : ∀ s2 s3, ev tb Φ (.idx (.var 1) (.cst (.int (0)))) (E s2 s3) h = .ok (.int (q : Int)) h := fun _ _ => E_idx (v1 _ _) E_cst rfl
  have i1 : ∀ s2 s3, ev tb Φ (.idx (.var 1) (.cst (.int (1)))) (E s2 s3) h = .ok (.tup R) h := fun _ _ => E_idx (v1 _ _) E_cst rfl
  have i2 : ∀ s2 s3, ev tb Φ (.idx (.var 1) (.cst (.int (2)))) (E s2 s3) h = .ok (.tup C) h := fun _ _ => E_idx (v1 _ _) E_cst rfl
  have g : ∀ (s2 s3 : Slot) (s : Str) (d : D), idxD (lpD w c is os) (.str s) = some d → ev tb Φ (.idx (.var 0) (.cst (.str s))) (E s2 s3) h = .ok d h := fun _ _ s d z => E_idx (Ov (E_var rfl) rfl) E_cst z
  have lnl : ∀ (l : List Nat), bltD .len [.lst (l.map sg)] = some (.int (l.length : Int)) := fun l => by show some (D.int ((l.map sg).length : Int)) = _; rw [List.length_map]
  unfold B_law_is_state
  refine (execs_nx (X_skip (T_or0 (T_not (t := .v _) (r := true) (T_v (E_isi (v1 _ _) rfl))) (T_v (E_cmp (Ov (E_blt (v1 _ _) rfl) rfl) (Ov E_cst rfl) ((cD_nei _ _).trans (congrArg (fun b => some !b) (decide_eq_true rfl)))))))).trans ?_
  refine (execs_nx (X_skip (T_or0 (T_not (t := .v _) (r := true) (T_v (E_isi (Ov (i0 _ _) rfl) rfl))) (T_or0 (T_v (E_isi (Ov (i0 _ _) rfl) rfl)) (T_not (t := .v _) (r := true) (T_v (E_chn (Ov E_cst rfl) (Ov (i0 _ _) rfl) (Ov (E_blt (Ov (g _ _ _ (.lst (c.map Ins.d)) (by kernel_rfl)) rfl) rfl) rfl) ((cD_lei _ _).trans (congrArg some (decide_eq_true (by omega)))) ((cD_lei _ _).trans (congrArg some (decide_eq_true (by rw [List.length_map]; omega))))))))))).trans ?_
  refine (execs_nx (X_skip (T_or0 (T_not (t := .v _) (r := true) (T_v (E_isi (Ov (i1 _ _) rfl) rfl))) (T_not (t := .v _) (r := true) (T_v (E_isi (Ov (i2 _ _) rfl) rfl)))))).trans ?_
  refine (execs_nx (X_skip (T_or0 (T_v (E_cmp (Ov (E_blt (Ov (i1 _ _) rfl) rfl) rfl) (Ov (E_blt (Ov (g _ _ _ (.lst ((rgs c is os).map sg)) (by kernel_rfl)) rfl) (lnl _)) rfl) ((cD_nei _ _).trans (congrArg (fun b => some !b) (decide_eq_true (by rw [O.nR]))))))
    (T_v (E_cmp (Ov (E_blt (Ov (i2 _ _) rfl) rfl) rfl) (Ov (E_blt (Ov (g _ _ _ (.lst ((cls c).map sg)) (by kernel_rfl)) rfl) (lnl _)) rfl) ((cD_nei _ _).trans (congrArg (fun b => some !b) (decide_eq_true (by rw [O.nC]))))))))).trans ?_
  have gw : ∀ s2 s3, ev tb Φ (.idx (.var 0) (.cst (.str y_width))) (E s2 s3) h = .ok (.int (w : Int)) h := fun _ _ => g _ _ _ _ (by kernel_rfl)
  have p5 : MP.exec tb Φ (.forr (.nm 2) (.val (.idx (.var 1) (.cst (.int (1))))) (.cons (.iff (.not (.v (.call p.isSt (.cons (.idx (.var 0) (.cst (.str y_width))) (.cons (.var 2) .nil))))) (.cons (.ret (.cst (.bl false))) .nil) .nil) (.cons (.wip [2]) .nil))) (E .no .no) h = .nx (E .no .no) h :=
    (X_for (ds := R) rfl (I_val (x := .tup R) (i1 _ _) (fun _ z => nomatch z) rfl)).trans (loop_all fun d hd => (execs_nx (e' := E (.val d) .no) (X_skip (T_not (t := .v _) (r := true) (T_v (E_call (E_cons (gw _ _) (E_cons (E_var rfl) E_nil)) P.dIsSt (isst_ok P k h hw (O.R d hd))))))).trans rfl)
  refine (execs_nx p5).trans ((execs_nx (show MP.exec tb Φ (.wip [2]) (E .no .no) h = .nx (E .no .no) h from rfl)).trans ?_)
  have p7 : MP.exec tb Φ (.forr (.nm 3) (.val (.idx (.var 1) (.cst (.int (2))))) (.cons (.iff (.and (.v (.cmp .notn (.var 3) (.cst .non))) (.not (.v (.call p.isSt (.cons (.idx (.var 0) (.cst (.str y_width))) (.cons (.var 3) .nil)))))) (.cons (.ret (.cst (.bl false))) .nil) .nil) (.cons (.wip [3]) .nil))) (E .no .no) h = .nx (E .no .no) h := by
    refine (X_for (ds := C) rfl (I_val (x := .tup C) (i2 _ _) (fun _ z => nomatch z) rfl)).trans (loop_all fun d hd => ?_)
    rcases O.C d hd with rfl | hs
    · exact (execs_nx (e' := E .no (.val .non)) (X_skip (T_and0 (T_v (E_cmp (Ov (E_var rfl) rfl) (Ov E_cst rfl) rfl))))).trans rfl
    · have c1 : cmpD .notn d .non = some true := by
        rcases hs with ⟨a, _, rfl⟩ | rfl | rfl <;> rfl
      exact (execs_nx (e' := E .no (.val d)) (X_skip (T_and1 (T_v (E_cmp (Ov (E_var rfl) (hs.view h)) (Ov E_cst rfl) c1)) (T_not (t := .v _) (r := true) (T_v (E_call (E_cons (gw _ _) (E_cons (E_var rfl) E_nil)) P.dIsSt (isst_ok P k h hw hs))))))).trans rfl
  exact (execs_nx p7).trans ((execs_nx (show MP.exec tb Φ (.wip [3]) (E .no .no) h = .nx (E .no .no) h from rfl)).trans (execs_rt (X_ret E_cst)))
end
end MP

set_option maxRecDepth 100000
set_option maxHeartbeats 4000000
/-! MP43: first states, answers. -/
namespace MP
open PySem PySem.Spec PyProof.Rows L2 SrtO
theorem turns_dct {α : Type} {mk : α → D} {G : D → List (D × D) → MH → R (List (D × D))} {K V : α → D} {h : MH} : ∀ (l : List α) (acc : List (D × D)), acc.length + l.length < lim → (∀ a ∈ l, ∀ acc : List (D × D), acc.length < lim → G (mk a) acc h = .ok (dput acc (K a) (V a)) h) →
    (acc.map (·.1) ++ l.map K).Pairwise (fun x y => eqD x y = false) → turns G (l.map mk) acc h = .ok (acc ++ l.map fun a => (K a, V a)) h
  | [], acc, _, _, _ => by simp [turns]
  | a :: r, acc, ha, H, P => by
    rw [List.length_cons] at ha
    show (G (mk a) acc h).bind (fun acc h => turns G (r.map mk) acc h) = _
    rw [H a List.mem_cons_self acc (by omega)]
    have d : dput acc (K a) (V a) = acc ++ [(K a, V a)] := dput_new fun p hp => (List.pairwise_append.mp P).2.2 _ (List.mem_map_of_mem hp) _ List.mem_cons_self
    rw [d]
    show turns G (r.map mk) (acc ++ [(K a, V a)]) h = _
    rw [turns_dct r _ (by rw [List.length_append, List.length_singleton]; omega) (fun b m => H b (List.mem_cons_of_mem _ m)) (by rw [List.map_append, List.append_assoc]; exact P), List.append_assoc]
    rfl
/-- what is held at first -/
def gv (is : List Nat) (S : List D) (x : Nat) : D := (((is.zip S).find? fun p => decide (p.1 = x)).map (·.2)).getD (.int 0)
theorem dget_zip (is : List Nat) (S : List D) (x : Nat) : dget ((is.zip S).map fun p => (sg p.1, p.2)) (sg x) = ((is.zip S).find? fun p => decide (p.1 = x)).map (·.2) := by
  generalize is.zip S = l
  unfold dget
  induction l with
  | nil => rfl
  | cons a r ih =>
    rw [List.map_cons, List.find?_cons, List.find?_cons]
    have e : eqD (sg a.1, a.2).1 (sg x) = decide (a.1 = x) := sg_eq _ _
    rw [e]
    cases decide (a.1 = x) with
    | true => rfl
    | false => exact ih
theorem idx_gv : ∀ (is : List Nat) (S : List D) (x : Nat), is.length = S.length → x ∈ is → ∃ j, is.findIdx? (fun z => decide (z = x)) = some j ∧ S[j]? = some (gv is S x)
  | a :: r, s :: t, x, hl, hx => by
    by_cases e : a = x
    · subst e
      exact ⟨0, by simp [List.findIdx?_cons], by simp [gv]⟩
    · have hx : x ∈ r := by
        rcases List.mem_cons.mp hx with z | z
        · exact absurd z.symm e
        · exact z
      obtain ⟨j, h1, h2⟩ := idx_gv r t x (by simpa using hl) hx
      refine ⟨j + 1, by rw [List.findIdx?_cons, decide_eq_false e]; simp [h1], ?_⟩
      rw [List.getElem?_cons_succ, h2]
      show _ = some (((((a, s) :: r.zip t).find? fun p => decide (p.1 = x)).map (·.2)).getD (.int 0))
      rw [List.find?_cons]
      simp only [decide_eq_false e]
      rfl
  | [], _, _, _, hx => by cases hx
  | _ :: _, [], _, hl, _ => by cases hl
theorem gv_not {is : List Nat} {S : List D} {x : Nat} (hx : x ∉ is) : gv is S x = .int 0 := by
  unfold gv
  rw [List.find?_eq_none.mpr fun p hp => ?_]
  · rfl
  · have := (List.of_mem_zip hp).1
    simp only [decide_eq_true_eq]
    intro z; exact hx (z ▸ this)
theorem gv_mem {is : List Nat} {S : List D} {x : Nat} : gv is S x ∈ S ∨ gv is S x = .int 0 := by
  unfold gv
  cases q : (is.zip S).find? fun p => decide (p.1 = x) with
  | none => exact .inr rfl
  | some p => exact .inl (List.of_mem_zip (a := p.1) (b := p.2) (List.mem_of_find?_eq_some q)).2
theorem findIdx_sg (l : List Nat) (x : Nat) : (l.map sg).findIdx? (fun z => eqD z (sg x)) = l.findIdx? fun z => decide (z = x) := by
  induction l with
  | nil => rfl
  | cons a r ih => rw [List.map_cons, List.findIdx?_cons, List.findIdx?_cons, sg_eq, ih]
theorem lindex_sg {l : List Nat} {x : Nat} (hx : x < 1114112) (hl : ∀ a ∈ l, a < 1114112) : bmD .lindex (.lst (l.map sg)) [sg x] = (l.findIdx? fun z => decide (z = x)).map fun (j : Nat) => .int j := by
  show (indexD (l.map sg) (sg x)).map _ = _
  unfold indexD
  rw [sg_fit hx, sg_fitL hl, findIdx_sg]; rfl
theorem tindex_sg {l : List Nat} {x : Nat} : bmD .tindex (.tup (l.map sg)) [sg x] = (l.findIdx? fun z => decide (z = x)).map fun (j : Nat) => .int j := by
  show (if (l.map sg).all isStrD then ((l.map sg).findIdx? fun z => eqD z (sg x)).map fun (j : Nat) => D.int j else none) = _
  rw [allStr_sg, findIdx_sg]; rfl
theorem cutD {α : Type} (l : List α) (j : Nat) : cutL l (some (j : Int)) none = l.drop j := by
  unfold cutL
  rw [HT.sIx_none, HT.sIx_nat]
  rcases Nat.lt_or_ge j l.length with z | z
  · rw [Nat.min_eq_left (by omega)]
    exact List.take_of_length_le (by rw [List.length_drop]; omega)
  · rw [Nat.min_eq_right z, List.drop_eq_nil_of_le z, List.drop_length]; simp
theorem tup_add {a b : List D} (h : a.length + b.length ≤ lim) : binD .add (.tup a) (.tup b) = some (.tup (a ++ b)) := by
  show (if a.length + b.length ≤ lim then some (D.tup (a ++ b)) else none) = _
  rw [if_pos h]
/-- one of a row anew -/
def putL (R : List D) (j : Nat) (d : D) : List D := R.take j ++ [d] ++ R.drop (j + 1)
theorem putL_len {R : List D} {j : Nat} {d : D} (h : j < R.length) : (putL R j d).length = R.length := by
  unfold putL
  simp only [List.length_append, List.length_take, List.length_drop, List.length_cons, List.length_nil]
  omega
theorem putL_mem {R : List D} {j : Nat} {d x : D} (h : x ∈ putL R j d) : x = d ∨ x ∈ R := by
  unfold putL at h
  rcases List.mem_append.mp h with h | h
  · rcases List.mem_append.mp h with h | h
    · exact .inr (List.mem_of_mem_take h)
    · exact .inl (List.mem_singleton.mp h)
  · exact .inr (List.mem_of_mem_drop h)
theorem fitL_all {k : Nat} : ∀ {l : List D}, (∀ d ∈ l, fit d k = true) → fitL l k = true
  | [], _ => rfl
  | a :: r, h => by
    show (fit a k && fitL r k) = true
    rw [h a List.mem_cons_self, fitL_all fun b m => h b (List.mem_cons_of_mem _ m)]; rfl
theorem eqDL_all : ∀ {l : List D}, (∀ d ∈ l, eqD d d = true) → eqDL l l = true
  | [], _ => rfl
  | a :: r, h => by
    show (eqD a a && eqDL r r) = true
    rw [h a List.mem_cons_self, eqDL_all fun b m => h b (List.mem_cons_of_mem _ m)]; rfl
theorem st_cmp {w p : Nat} {R C : List D} (hR : ∀ d ∈ R, St w d) (hC : ∀ d ∈ C, Cl w d) : cmpD .ne (stD p R C) (stD p R C) = some false ∧ cmpD .eq (stD p R C) (stD p R C) = some true := by
  have f : fit (stD p R C) 60 = true := by
    show (true && (fitL R 58 && (fitL C 58 && true))) = true
    rw [fitL_all fun d m => (hR d m).fit 58, fitL_all fun d m => (hC d m).fit 58]; rfl
  have e : eqD (stD p R C) (stD p R C) = true := by
    show (decide ((p : Int) = (p : Int)) && (eqDL R R && (eqDL C C && true))) = true
    rw [eqDL_all fun d m => (hR d m).eqD, eqDL_all fun d m => (hC d m).eqD, decide_eq_true rfl]; rfl
  constructor
  · show (if fit (stD p R C) 60 && fit (stD p R C) 60 then some (eqD (stD p R C) (stD p R C)) else none).map (!·) = _
    rw [f, e]; rfl
  · show (if fit (stD p R C) 60 && fit (stD p R C) 60 then some (eqD (stD p R C) (stD p R C)) else none) = _
    rw [f, e]; rfl
theorem view_st {p : Nat} {R C : List D} {h : MH} : view (stD p R C) h = some (stD p R C) := rfl
section
variable {tb : Tb} {F : Nat → Option Fd}
theorem fst_ok {f : Nat} (hF : F f = some ⟨2, 6, B_first_state, none, false⟩) (k : Nat) (h : MH) {cl w : Nat} {c : List Ins} {is os : List Nat} {S : List D} (hS : S.length = is.length) (nd : is.Nodup) (hn : is.length ≤ 1000) (fl : ∀ f ∈ [y_width, y_code, y_inputs, y_outputs, y_registers, y_cells], tb.fld cl f = true) :
    callN tb F (k + 1) f [pieceD cl w c is os, .tup S] h = .ok (stD 0 ((rgs c is os).map (gv is S)) ((cls c).map fun _ => .non)) h := by
  let Φ := callN tb F k
  let P := pieceD cl w c is os
  let E (s2 s3 s4 s5 : Slot) : Ev := [.val P, .val (.tup S), s2, s3, s4, s5]
  refine callN_of hF rfl rfl (run_of (b := B_first_state) rfl (e := E .no .no .no .no) rfl rfl ?_)
  have a0 : ∀ (s2 s3 s4 s5 : Slot) (s : Str) (d : D), s ∈ [y_width, y_code, y_inputs, y_outputs, y_registers, y_cells] → fget (pieceF w c is os) s = some d → ev tb Φ (.att (.var 0) s) (E s2 s3 s4 s5) h = .ok d h := fun _ _ _ _ s d m q => E_att (x := P) (E_var rfl) rfl (fl s m) q
  have ai : ∀ s2 s3 s4 s5, ev tb Φ (.att (.var 0) y_inputs) (E s2 s3 s4 s5) h = .ok (.tup (is.map sg)) h := fun _ _ _ _ => a0 _ _ _ _ _ _ (by simp) (by kernel_rfl)
  have ln : bltD .len [.tup (is.map sg)] = some (.int (is.length : Int)) := by show some (D.int ((is.map sg).length : Int)) = _; rw [List.length_map]
  let dc : List (D × D) := (is.zip S).map fun p => (sg p.1, p.2)
  have gd : ev tb Φ (.dc [3] (.idx (.att (.var 0) y_inputs) (.var 3)) (.idx (.var 1) (.var 3)) (.nm 3) (.rng (.blt .len (.cons (.att (.var 0) y_inputs) .nil))) .nil) (E .no .no .no .no) h = .ok (.dct dc) h := by
    have hit : evI tb Φ (.rng (.blt .len (.cons (.att (.var 0) y_inputs) .nil))) (E .no .no .no .no) h = .ok ((List.range is.length).map fun (j : Nat) => D.int (j : Int)) h := I_rng (E_blt (Ov (ai _ _ _ _) rfl) ln) (by omega)
    unfold ev
    rw [show noOwn (E .no .no .no .no) [3] = true from rfl, show patIn [3] (.nm 3) = true from rfl, if_pos (show (true && true) = true from rfl), hit]
    show ((turns _ ((List.range is.length).map fun (j : Nat) => D.int (j : Int)) [] h).bind _) = _
    rw [turns_dct (K := fun j => sg (is.getD j 0)) (V := fun j => S.getD j .non) (List.range is.length) [] (by rw [List.length_range]; show 0 + _ < 10000000; omega) (fun j hj acc hacc => ?_) ?_]
    · show R.ok (D.dct ([] ++ (List.range is.length).map _)) h = _
      congr 2
      rw [List.nil_append]
      refine List.ext_getElem (by simp [dc, hS]) fun j h1 h2 => ?_
      have hj : j < is.length := by simpa using h1
      simp only [dc, List.getElem_map, List.getElem_range, List.getElem_zip]
      rw [List.getD_eq_getElem?_getD, List.getD_eq_getElem?_getD, List.getElem?_eq_getElem hj, List.getElem?_eq_getElem (by omega)]; rfl
    · rw [List.map_nil, List.nil_append]
      refine List.pairwise_map.mpr ?_
      have : (List.range is.length).Pairwise fun i j => i < j ∧ j < is.length := List.pairwise_iff_getElem.mpr fun i j hi hj hij => by
        simp only [List.getElem_range]
        simp only [List.length_range] at hi hj
        exact ⟨hij, hj⟩
      refine this.imp fun {i j} hij => ?_
      rw [sg_eq]
      refine decide_eq_false fun z => ?_
      rw [List.getD_eq_getElem?_getD, List.getD_eq_getElem?_getD, List.getElem?_eq_getElem (by omega), List.getElem?_eq_getElem hij.2] at z
      exact (List.pairwise_iff_getElem.mp nd i j (by omega) hij.2 hij.1) z
    · have hj := List.mem_range.mp hj
      have e1 : ev tb Φ (.idx (.att (.var 0) y_inputs) (.var 3)) (E .no (.val (.int (j : Int))) .no .no) h = .ok (sg (is.getD j 0)) h := E_idx (Ov (ai _ _ _ _) rfl) (E_var rfl) ((sgT_idx hj).trans (by rw [List.getD_eq_getElem?_getD, List.getElem?_eq_getElem hj]; rfl))
      have e2 : ev tb Φ (.idx (.var 1) (.var 3)) (E .no (.val (.int (j : Int))) .no .no) h = .ok (S.getD j .non) h := E_idx (Ov (E_var rfl) rfl) (E_var rfl) (by
        show L2.atI S (j : Int) = _
        rw [atI_nat (by omega), List.getD_eq_getElem?_getD, List.getElem?_eq_getElem (by omega)]; rfl)
      have hb : bindP (.nm 3) (.int (j : Int)) (wipeE (E .no .no .no .no) [3]) = some (E .no (.val (.int (j : Int))) .no .no) := rfl
      have hk : (kk (sg (is.getD j 0)) == 0) = true := rfl
      simp only [hb, evC, R.bind, if_true, e1, e2, hk, hacc, decide_true, Bool.and_self]
  refine (execs_nx (X_set gd)).trans ?_
  have gr : ev tb Φ (.lc [4] (.bm .get (.var 2) (.cons (.var 4) (.cons (.cst (.int (0))) .nil))) (.nm 4) (.val (.att (.var 0) y_registers)) .nil) (E (.val (.dct dc)) .no .no .no) h = .ok (.lst ((rgs c is os).map (gv is S))) h := by
    have hl26 : (rgs c is os).length ≤ 26 := List.length_filter_le _ _
    have z := ev_lc (tb := tb) (Φ := Φ) (ws := [4]) (elt := .bm .get (.var 2) (.cons (.var 4) (.cons (.cst (.int (0))) .nil))) (p := .nm 4) (it := .val (.att (.var 0) y_registers)) (cs := .nil) (e := E (.val (.dct dc)) .no .no .no) (h := h) (mk := sg) (l := rgs c is os) (P := fun _ => true) (G := gv is S) rfl rfl (I_val (x := .tup ((rgs c is os).map sg)) (a0 _ _ _ _ _ _ (by simp) (by kernel_rfl)) (fun _ z => nomatch z) rfl) (by show _ ≤ 10000000; omega) fun x hx => by
      refine ⟨E (.val (.dct dc)) .no (.val (sg x)) .no, rfl, rfl, fun _ => E_bm (x := .dct dc) (Ov (E_var rfl) rfl) rfl (E_cons (E_var rfl) (E_cons E_cst E_nil)) ?_⟩
      have hk : kfit dc (sg x) = true := by
        show kfit ((is.zip S).map fun p => (sg p.1, p.2)) (sg x) = true
        cases is.zip S <;> rfl
      show (if kfit dc (sg x) then some ((dget dc (sg x)).getD (.int 0)) else none) = _
      rw [hk, if_pos rfl, dget_zip]; rfl
    rw [List.filter_eq_self.mpr fun _ _ => rfl] at z
    exact z
  have gc : ev tb Φ (.lc [5] (.cst .non) (.nm 5) (.val (.att (.var 0) y_cells)) .nil) (E (.val (.dct dc)) .no .no .no) h = .ok (.lst ((cls c).map fun _ => .non)) h := by
    have hl26 : (cls c).length ≤ 26 := List.length_filter_le _ _
    have z := ev_lc (tb := tb) (Φ := Φ) (ws := [5]) (elt := .cst .non) (p := .nm 5) (it := .val (.att (.var 0) y_cells)) (cs := .nil) (e := E (.val (.dct dc)) .no .no .no) (h := h) (mk := sg) (l := cls c) (P := fun _ => true) (G := fun _ => .non) rfl rfl (I_val (x := .tup ((cls c).map sg)) (a0 _ _ _ _ _ _ (by simp) (by kernel_rfl)) (fun _ z => nomatch z) rfl) (by show _ ≤ 10000000; omega) fun x hx => ⟨_, rfl, rfl, fun _ => rfl⟩
    rw [List.filter_eq_self.mpr fun _ _ => rfl] at z
    exact z
  exact execs_rt (X_ret (E_tup (E_cons E_cst (E_cons (E_blt (Ov gr rfl) rfl) (E_cons (E_blt (Ov gc rfl) rfl) E_nil))) rfl))
theorem lfst_ok {f : Nat} (hF : F f = some ⟨2, 6, B_law_first, none, false⟩) (k : Nat) (h : MH) {w : Nat} {c : List Ins} {is os : List Nat} {S : List D} (hS : S.length = is.length) (his : ∀ a ∈ is, a < 1114112) :
    callN tb F (k + 1) f [lpD w c is os, .tup S] h = .ok (stD 0 ((rgs c is os).map (gv is S)) ((cls c).map fun _ => .non)) h := by
  let Φ := callN tb F k
  let E (s2 s3 s4 s5 : Slot) : Ev := [.val (lpD w c is os), .val (.tup S), s2, s3, s4, s5]
  refine callN_of hF rfl rfl (run_of (b := B_law_first) rfl (e := E .no .no .no .no) rfl rfl ?_)
  have g : ∀ (s2 s3 s4 s5 : Slot) (s : Str) (d : D), idxD (lpD w c is os) (.str s) = some d → ev tb Φ (.idx (.var 0) (.cst (.str s))) (E s2 s3 s4 s5) h = .ok d h := fun _ _ _ _ s d z => E_idx (Ov (E_var rfl) rfl) E_cst z
  have gi : ∀ s2 s3 s4 s5, ev tb Φ (.idx (.var 0) (.cst (.str y_inputs))) (E s2 s3 s4 s5) h = .ok (.lst (is.map sg)) h := fun _ _ _ _ => g _ _ _ _ _ _ (by kernel_rfl)
  have hl26 : (rgs c is os).length ≤ 26 := List.length_filter_le _ _
  refine (execs_nx (show MP.exec tb Φ (.setN 2 (.lst .nil)) (E .no .no .no .no) h = .nx (E (.own (.lst [])) .no .no .no) h from rfl)).trans ?_
  have lp : MP.exec tb Φ (.forr (.nm 3) (.val (.idx (.var 0) (.cst (.str y_names)))) (.cons (.set 4 (.cst (.int (0)))) (.cons (.iff (.v (.cmp .inn (.var 3) (.idx (.var 0) (.cst (.str y_inputs))))) (.cons (.set 4 (.idx (.var 1) (.bm .lindex (.idx (.var 0) (.cst (.str y_inputs))) (.cons (.var 3) .nil)))) .nil) .nil) (.cons (.app 2 (.var 4)) (.cons (.wip [3, 4]) .nil))))) (E (.own (.lst [])) .no .no .no) h = .nx (E (.own (.lst ((rgs c is os).map (gv is S)))) .no .no .no) h := by
    refine (X_for (ds := (rgs c is os).map sg) rfl (I_val (x := .lst ((rgs c is os).map sg)) (g _ _ _ _ _ _ (by kernel_rfl)) (fun _ z => nomatch z) rfl)).trans ?_
    have q := loop_seq (f := fun d e h => (match bindP (.nm 3) d e with
      | some e => MP.execs tb Φ (.cons (.set 4 (.cst (.int (0)))) (.cons (.iff (.v (.cmp .inn (.var 3) (.idx (.var 0) (.cst (.str y_inputs))))) (.cons (.set 4 (.idx (.var 1) (.bm .lindex (.idx (.var 0) (.cst (.str y_inputs))) (.cons (.var 3) .nil)))) .nil) .nil) (.cons (.app 2 (.var 4)) (.cons (.wip [3, 4]) .nil)))) e h
      | none => .no)) (E := fun s : List D => E (.own (.lst s)) .no .no .no) (mk := sg) (g := fun s x => s ++ [gv is S x]) (H := fun _ => h) (I := fun r s => (∀ a ∈ r, a < 1114112) ∧ s.length + r.length ≤ 100) (rgs c is os) [] (fun x r s hI => by
        obtain ⟨h1, h2⟩ := hI
        rw [List.length_cons] at h2
        have hx := h1 x List.mem_cons_self
        refine ⟨?_, fun a m => h1 a (List.mem_cons_of_mem _ m), by rw [List.length_append, List.length_singleton]; omega⟩
        refine (execs_nx (e' := E (.own (.lst s)) (.val (sg x)) (.val (.int 0)) .no) (h' := h) rfl).trans ?_
        have t := T_v (E_cmp (op := .inn) (Ov (E_var (tb := tb) (Φ := Φ) (h := h) (e := E (.own (.lst s)) (.val (sg x)) (.val (.int 0)) .no) (i := 3) (x := sg x) rfl) rfl) (Ov (gi _ _ _ _) rfl) ((cD_in _ _).trans (sg_in hx his)))
        have fin : MP.execs tb Φ (.cons (.app 2 (.var 4)) (.cons (.wip [3, 4]) .nil)) (E (.own (.lst s)) (.val (sg x)) (.val (gv is S x)) .no) h = .nx (E (.own (.lst (s ++ [gv is S x]))) .no .no .no) h := (execs_nx (X_app (E_var rfl) rfl (by show _ < 10000000; omega))).trans rfl
        by_cases m : x ∈ is
        · rw [decide_eq_true m] at t
          obtain ⟨j, j1, j2⟩ := idx_gv is S x hS.symm m
          have hj : j < S.length := by
            rcases Nat.lt_or_ge j S.length with z | z
            · exact z
            · rw [List.getElem?_eq_none z] at j2; cases j2
          have v4 : MP.exec tb Φ (.set 4 (.idx (.var 1) (.bm .lindex (.idx (.var 0) (.cst (.str y_inputs))) (.cons (.var 3) .nil)))) (E (.own (.lst s)) (.val (sg x)) (.val (.int 0)) .no) h = .nx (E (.own (.lst s)) (.val (sg x)) (.val (gv is S x)) .no) h := X_set (E_idx (x := .tup S) (y := .int (j : Int)) (Ov (E_var rfl) rfl) (E_bm (Ov (gi _ _ _ _) rfl) rfl (E_cons (E_var rfl) E_nil) ((lindex_sg hx his).trans (by rw [j1]; rfl))) (by
            show L2.atI S (j : Int) = _
            rw [atI_nat hj]; exact j2))
          exact (execs_nx ((X_if t).trans (execs_one v4))).trans fin
        · rw [decide_eq_false m] at t
          rw [gv_not m] at fin ⊢
          exact (execs_nx (X_skip t)).trans fin) ⟨fun a ha => smallC_lt (List.mem_filter.mp ha).1, by show 0 + _ ≤ _; omega⟩
    have fm : ∀ (l : List Nat) (s : List D), l.foldl (fun s x => s ++ [gv is S x]) s = s ++ l.map (gv is S) := by
      intro l
      induction l with
      | nil => intro s; simp
      | cons a r ih => intro s; rw [List.foldl_cons, ih, List.map_cons, List.append_assoc]; rfl
    rw [fm, List.nil_append] at q
    exact q.1
  refine (execs_nx lp).trans ((execs_nx (show MP.exec tb Φ (.wip [3, 4]) (E (.own (.lst ((rgs c is os).map (gv is S)))) .no .no .no) h = .nx (E (.own (.lst ((rgs c is os).map (gv is S)))) .no .no .no) h from rfl)).trans ?_)
  have gc : ev tb Φ (.lc [5] (.cst .non) (.nm 5) (.val (.idx (.var 0) (.cst (.str y_cells)))) .nil) (E (.own (.lst ((rgs c is os).map (gv is S)))) .no .no .no) h = .ok (.lst ((cls c).map fun _ => .non)) h := by
    have hl26 : (cls c).length ≤ 26 := List.length_filter_le _ _
    have z := ev_lc (tb := tb) (Φ := Φ) (ws := [5]) (elt := .cst .non) (p := .nm 5) (it := .val (.idx (.var 0) (.cst (.str y_cells)))) (cs := .nil) (e := E (.own (.lst ((rgs c is os).map (gv is S)))) .no .no .no) (h := h) (mk := sg) (l := cls c) (P := fun _ => true) (G := fun _ => .non) rfl rfl (I_val (x := .lst ((cls c).map sg)) (g _ _ _ _ _ _ (by kernel_rfl)) (fun _ z => nomatch z) rfl) (by show _ ≤ 10000000; omega) fun x hx => ⟨_, rfl, rfl, fun _ => rfl⟩
    rw [List.filter_eq_self.mpr fun _ _ => rfl] at z
    exact z
  exact execs_rt (X_ret (E_tup (E_cons E_cst (E_cons (E_blt (Oo rfl) rfl) (E_cons (E_blt (Ov gc rfl) rfl) E_nil))) rfl))
end
end MP

set_option maxRecDepth 100000
set_option maxHeartbeats 4000000
/-! MP44: answers. -/
namespace MP
open PySem PySem.Spec PyProof.Rows L2 SrtO
theorem findIdx_mem : ∀ {l : List Nat} {x : Nat}, x ∈ l → ∃ j, l.findIdx? (fun z => decide (z = x)) = some j ∧ j < l.length
  | a :: r, x, hx => by
    by_cases e : a = x
    · exact ⟨0, by simp [List.findIdx?_cons, e], by simp⟩
    · have hx : x ∈ r := by
        rcases List.mem_cons.mp hx with z | z
        · exact absurd z.symm e
        · exact z
      obtain ⟨j, h1, h2⟩ := findIdx_mem hx
      exact ⟨j + 1, by rw [List.findIdx?_cons, decide_eq_false e]; simp [h1], by rw [List.length_cons]; omega⟩
  | [], _, hx => by cases hx
section
variable {tb : Tb} {F : Nat → Option Fd}
theorem E_put {Φ : Nat → List D → MH → R D} {e : Ev} {h : MH} {a b d : M} {R : List D} {j : Nat} {x : D} (ha : Oc tb Φ a e h (.tup R) h) (hb : ev tb Φ b e h = .ok (.int (j : Int)) h) (hd : ev tb Φ d e h = .ok x h) (hR : R.length ≤ 1000) : ev tb Φ (.bin .add (.bin .add (.slc a .no (.so b)) (.tup (.cons d .nil))) (.slc a (.so (.bin .add b (.cst (.int (1))))) .no)) e h = .ok (.tup (putL R j x)) h := by
  have l1 : (R.take j).length ≤ 1000 := by rw [List.length_take]; omega
  have l2 : (R.drop (j + 1)).length ≤ 1000 := by rw [List.length_drop]; omega
  refine E_bin (x := .tup (R.take j ++ [x])) (y := .tup (R.drop (j + 1))) (Ov (E_bin (z := .tup (R.take j ++ [x])) (x := .tup (R.take j)) (y := .tup [x]) (Ov (E_slc ha E_no (E_so hb) (congrArg (fun l => some (D.tup l)) (cut0 R j))) rfl) (Ov (E_tup (E_cons hd E_nil) rfl) rfl) (tup_add (by show _ + 1 ≤ 10000000; omega))) rfl) (Ov (E_slc ha (E_so (E_bin (z := .int ((j + 1 : Nat) : Int)) (Ov hb rfl) (Ov E_cst rfl) rfl)) E_no (congrArg (fun l => some (D.tup l)) (cutD R (j + 1)))) rfl) (tup_add ?_)
  rw [List.length_append, List.length_singleton]
  show _ ≤ 10000000
  omega
theorem lput_ok {f : Nat} (hF : F f = some ⟨3, 3, B_law_put, none, false⟩) (k : Nat) (h : MH) {R : List D} {j : Nat} {x : D} (hR : R.length ≤ 1000) : callN tb F (k + 1) f [.tup R, .int (j : Int), x] h = .ok (.tup (putL R j x)) h :=
  callN_of hF rfl rfl (run_of (b := B_law_put) rfl (e := [.val (.tup R), .val (.int (j : Int)), .val x]) rfl rfl (execs_rt (X_ret (E_put (Ov (E_var rfl) rfl) (E_var rfl) (E_var rfl) hR))))
theorem withreg_ok {f : Nat} (hF : F f = some ⟨4, 5, B_with_register, none, false⟩) (k : Nat) (h : MH) {cl w q : Nat} {c : List Ins} {is os : List Nat} {R C : List D} {x j : Nat} {d : D} (fl : ∀ f ∈ [y_width, y_code, y_inputs, y_outputs, y_registers, y_cells], tb.fld cl f = true) (hR : R.length ≤ 1000) (hj : (rgs c is os).findIdx? (fun z => decide (z = x)) = some j) :
    callN tb F (k + 1) f [pieceD cl w c is os, stD q R C, sg x, d] h = .ok (stD (q + 1) (putL R j d) C) h := by
  let P := pieceD cl w c is os
  refine callN_of hF rfl rfl (run_of (b := B_with_register) rfl (e := [.val P, .val (stD q R C), .val (sg x), .val d, .no]) rfl rfl ?_)
  refine (execs_nx (X_set (E_bm (x := .tup ((rgs c is os).map sg)) (Ov (E_att (z := .tup ((rgs c is os).map sg)) (x := P) (E_var rfl) rfl (fl y_registers (by simp)) (by kernel_rfl)) rfl) rfl (E_cons (E_var rfl) E_nil) (tindex_sg.trans (by rw [hj]; rfl))))).trans ?_
  refine execs_rt (X_ret (E_tup (ds := [.int ((q + 1 : Nat) : Int), .tup (putL R j d), .tup C]) (E_cons (E_bin (Ov (E_idx (x := stD q R C) (Ov (E_var rfl) rfl) E_cst rfl) rfl) (Ov E_cst rfl) rfl) (E_cons (E_put (Ov (E_idx (x := stD q R C) (z := .tup R) (Ov (E_var rfl) rfl) E_cst rfl) rfl) (E_var rfl) (E_var rfl) hR) (E_cons (E_idx (x := stD q R C) (Ov (E_var rfl) rfl) E_cst rfl) E_nil))) rfl))
theorem ans_ok {f g : Nat} (hF : F f = some ⟨3, 3, B_answered g, none, false⟩) (hG : F g = some ⟨4, 5, B_with_register, none, false⟩) (dg : ∀ n, tb.dfl g n = []) (k : Nat) (h : MH) {cl w q : Nat} {c : List Ins} {is os : List Nat} {R C : List D} {x j : Nat} {d : D} (fl : ∀ f ∈ [y_width, y_code, y_inputs, y_outputs, y_registers, y_cells], tb.fld cl f = true) (hR : R.length ≤ 1000) (hq : q < c.length) (hx : idxD (c[q]).d (.int 1) = some (sg x)) (hj : (rgs c is os).findIdx? (fun z => decide (z = x)) = some j) :
    callN tb F (k + 2) f [pieceD cl w c is os, stD q R C, d] h = .ok (stD (q + 1) (putL R j d) C) h := by
  let P := pieceD cl w c is os
  refine callN_of hF rfl rfl (run_of (b := B_answered g) rfl (e := [.val P, .val (stD q R C), .val d]) rfl rfl ?_)
  refine execs_rt (X_ret (E_call (E_cons (E_var rfl) (E_cons (E_var rfl) (E_cons (E_idx (x := (c[q]).d) (Ov (E_idx (z := (c[q]).d) (x := .tup (c.map Ins.d)) (y := .int (q : Int)) (Ov (E_att (z := .tup (c.map Ins.d)) (x := P) (E_var rfl) rfl (fl y_code (by simp)) (by kernel_rfl)) rfl) (E_idx (x := stD q R C) (Ov (E_var rfl) rfl) E_cst rfl) ?_) rfl) E_cst hx) (E_cons (E_var rfl) E_nil)))) dg (withreg_ok hG k h fl hR hj)))
  show L2.atI (c.map Ins.d) (q : Int) = _
  rw [atI_nat (by rw [List.length_map]; exact hq), List.getElem?_map, List.getElem?_eq_getElem hq]; rfl
theorem lans_ok {f g : Nat} (hF : F f = some ⟨3, 4, B_law_answered g, none, false⟩) (hG : F g = some ⟨3, 3, B_law_put, none, false⟩) (dg : ∀ n, tb.dfl g n = []) (k : Nat) (h : MH) {w q : Nat} {c : List Ins} {is os : List Nat} {R C : List D} {x j : Nat} {d : D} (hR : R.length ≤ 1000) (hq : q < c.length) (hx : idxD (c[q]).d (.int 1) = some (sg x)) (hxs : x < 1114112) (hj : (rgs c is os).findIdx? (fun z => decide (z = x)) = some j) :
    callN tb F (k + 2) f [lpD w c is os, stD q R C, d] h = .ok (stD (q + 1) (putL R j d) C) h := by
  refine callN_of hF rfl rfl (run_of (b := B_law_answered g) rfl (e := [.val (lpD w c is os), .val (stD q R C), .val d, .no]) rfl rfl ?_)
  have hc : idxD (.lst (c.map Ins.d)) (.int (q : Int)) = some (c[q]).d := by
    show L2.atI (c.map Ins.d) (q : Int) = _
    rw [atI_nat (by rw [List.length_map]; exact hq), List.getElem?_map, List.getElem?_eq_getElem hq]; rfl
  refine (execs_nx (X_set (E_idx (x := .lst (c.map Ins.d)) (y := .int (q : Int)) (Ov (E_idx (z := .lst (c.map Ins.d)) (x := lpD w c is os) (Ov (E_var rfl) rfl) E_cst (by kernel_rfl)) rfl) (E_idx (x := stD q R C) (Ov (E_var rfl) rfl) E_cst rfl) hc))).trans ?_
  refine execs_rt (X_ret (E_tup (ds := [.int ((q + 1 : Nat) : Int), .tup (putL R j d), .tup C]) (E_cons (E_bin (Ov (E_idx (x := stD q R C) (Ov (E_var rfl) rfl) E_cst rfl) rfl) (Ov E_cst rfl) rfl) (E_cons (E_call (E_cons (E_idx (x := stD q R C) (z := .tup R) (Ov (E_var rfl) rfl) E_cst rfl) (E_cons (E_bm (x := .lst ((rgs c is os).map sg)) (Ov (E_idx (z := .lst ((rgs c is os).map sg)) (x := lpD w c is os) (Ov (E_var rfl) rfl) E_cst (by kernel_rfl)) rfl) rfl (E_cons (E_idx (x := (c[q]).d) (Ov (E_var rfl) rfl) E_cst hx) E_nil) ((lindex_sg (l := rgs c is os) hxs fun a ha => smallC_lt (List.mem_filter.mp ha).1).trans (congrArg (fun o => Option.map (fun (j : Nat) => D.int j) o) hj))) (E_cons (E_var rfl) E_nil))) dg (lput_ok hG k h hR)) (E_cons (E_idx (x := stD q R C) (Ov (E_var rfl) rfl) E_cst rfl) E_nil))) rfl))
/-- a drawn number, and its remainder -/
theorem dw {Φ : Nat → List D → MH → R D} {e : Ev} {h : MH} {l : List D} (dl : Dr l) {j : Nat} (e0 : e[j]? = some (.val (.lst l))) {a : M} {i : Nat} (ha : ev tb Φ a e h = .ok (.int (i : Int)) h) (hi : i < l.length) : ∃ x : Nat, ev tb Φ (.idx (.var j) a) e h = .ok (.int (x : Int)) h := by
  obtain ⟨x, g, x0, _⟩ := dl.get hi
  refine ⟨x.toNat, E_idx (Ov (E_var e0) rfl) ha ?_⟩
  show L2.atI l (i : Int) = _
  rw [atI_nat hi, g, Int.toNat_of_nonneg x0]
theorem dm {Φ : Nat → List D → MH → R D} {e : Ev} {h : MH} {l : List D} (dl : Dr l) {j : Nat} (e0 : e[j]? = some (.val (.lst l))) {a b : M} {i : Nat} (ha : ev tb Φ a e h = .ok (.int (i : Int)) h) (hi : i < l.length) {n : Nat} (hb : ev tb Φ b e h = .ok (.int (n : Int)) h) (hn : 0 < n) : ∃ x : Nat, x < n ∧ ev tb Φ (.bin .mod (.blt .int (.cons (.idx (.var j) a) .nil)) b) e h = .ok (.int (x : Int)) h := by
  obtain ⟨x, q⟩ := dw dl e0 ha hi
  exact ⟨x % n, Nat.mod_lt _ hn, E_modN q hb hn⟩
theorem tm {Φ : Nat → List D → MH → R D} {e : Ev} {h : MH} {m : M} {x : Nat} (q : ev tb Φ m e h = .ok (.int (x : Int)) h) (j : Nat) : evT tb Φ (.v (.cmp .eq m (.cst (.int (j : Int))))) e h = .ok (decide ((x : Int) = (j : Int))) h := T_v (E_cmp (Ov q rfl) (Ov E_cst rfl) (cD_eqi _ _))
theorem tmg {Φ : Nat → List D → MH → R D} {e : Ev} {h : MH} {m : M} {x : Nat} (q : ev tb Φ m e h = .ok (.int (x : Int)) h) (j : Nat) : evT tb Φ (.v (.cmp .gt m (.cst (.int (j : Int))))) e h = .ok (decide ((j : Int) < (x : Int))) h := T_v (E_cmp (Ov q rfl) (Ov E_cst rfl) (cD_gti _ _))
end
end MP

set_option maxRecDepth 100000
set_option maxHeartbeats 0
namespace K10
open PySem PySem.Spec PyProof.Rows L2 MP
def y_ABCDEFGHIJKLMNOPQRSTUVWXYZ : Str := (⟨#[65, 66, 67, 68, 69, 70, 71, 72, 73, 74, 75, 76, 77, 78, 79, 80, 81, 82, 83, 84, 85, 86, 87, 88, 89, 90]⟩ : PySem.Str)
def f0 : Fd := ⟨1, 21, (.cons (.set 1 (.call 1 (.cons (.var 0) (.cons (.cst (.int (30))) .nil)))) (.cons (.set 2 (.bin .add (.cst (.int (1))) (.bin .mod (.blt .int (.cons (.idx (.var 1) (.cst (.int (0)))) .nil)) (.cst (.int (3)))))) (.cons (.set 3 (.call 2 (.cons (.var 2) .nil))) (.cons (.set 4 (.bin .add (.cst (.int (1))) (.bin .mod (.blt .int (.cons (.idx (.var 1) (.cst (.int (1)))) .nil)) (.cst (.int (6)))))) (.cons (.setN 5 (.call 3 (.cons (.var 1) (.cons (.cst (.int (2))) (.cons (.var 4) (.cons (.var 3) (.cons (.call 4 .nil) .nil))))))) (.cons (.set 6 (.bin .mod (.blt .int (.cons (.idx (.var 1) (.cst (.int (8)))) .nil)) (.var 4))) (.cons (.put 5 (.var 6) (.call 5 (.cons (.idx (.var 1) (.cst (.int (9)))) (.cons (.var 4) (.cons (.var 3) (.cons (.lst (.cons (.cst (.str y_ask)) .nil)) .nil)))))) (.cons (.set 7 (.slc (.lc [19] (.var 19) (.nm 19) (.val (.var 3)) (.cons (.or (.v (.cmp .gt (.bin .mod (.blt .int (.cons (.idx (.var 1) (.cst (.int (10)))) .nil)) (.cst (.int (3)))) (.cst (.int (0))))) (.v (.cmp .gt (.var 19) (.cst (.str y_b))))) .nil)) .no (.so (.cst (.int (3)))))) (.cons (.iff (.v (.cmp .eq (.bin .mod (.blt .int (.cons (.idx (.var 1) (.cst (.int (11)))) .nil)) (.cst (.int (2)))) (.cst (.int (1))))) (.cons (.set 7 (.lc [20] (.idx (.var 7) (.bin .sub (.bin .sub (.blt .len (.cons (.var 7) .nil)) (.cst (.int (1)))) (.var 20))) (.nm 20) (.rng (.blt .len (.cons (.var 7) .nil))) .nil)) .nil) .nil) (.cons (.set 8 (.slc (.lst (.cons (.idx (.var 3) (.bin .mod (.blt .int (.cons (.idx (.var 1) (.cst (.int (12)))) .nil)) (.blt .len (.cons (.var 3) .nil)))) .nil)) (.so (.bin .mod (.blt .int (.cons (.idx (.var 1) (.cst (.int (13)))) .nil)) (.cst (.int (2))))) .no)) (.cons (.frz 5) (.cons (.set 9 (.call 6 (.cons (.var 2) (.cons (.var 5) (.cons (.var 7) (.cons (.var 8) .nil)))))) (.cons (.set 10 (.mk 0 (.cons (.var 2) (.cons (.blt .list (.cons (.var 5) .nil)) (.cons (.blt .list (.cons (.var 7) .nil)) (.cons (.blt .list (.cons (.var 8) .nil)) .nil)))))) (.cons (.set 11 (.bin .add (.call 8 (.cons (.var 2) .nil)) (.lst (.cons (.cst (.str y_any)) (.cons (.cst (.str y_bad)) .nil))))) (.cons (.set 12 (.call 9 (.cons (.var 1) (.cons (.cst (.int (14))) (.cons (.var 11) (.cons (.blt .len (.cons (.var 7) .nil)) .nil)))))) (.cons (.set 13 (.call 10 (.cons (.var 10) (.cons (.var 12) .nil)))) (.cons (.iff (.or (.not (.v (.call 12 (.cons (.var 9) (.cons (.var 13) .nil))))) (.v (.cmp .ne (.var 13) (.call 11 (.cons (.var 9) (.cons (.var 12) .nil)))))) (.cons (.ret (.cst (.bl false))) .nil) .nil) (.cons (.set 14 (.call 9 (.cons (.var 1) (.cons (.cst (.int (17))) (.cons (.var 11) (.cons (.blt .len (.cons (.idx (.var 9) (.cst (.str y_names))) .nil)) .nil)))))) (.cons (.set 15 (.call 9 (.cons (.var 1) (.cons (.cst (.int (22))) (.cons (.bin .add (.var 11) (.lst (.cons (.cst .non) .nil))) (.cons (.blt .len (.cons (.idx (.var 9) (.cst (.str y_cells))) .nil)) .nil)))))) (.cons (.set 16 (.tup (.cons (.var 6) (.cons (.var 14) (.cons (.var 15) .nil))))) (.cons (.forr (.nm 17) (.val (.lst (.cons (.idx (.var 11) (.bin .mod (.blt .int (.cons (.idx (.var 1) (.cst (.int (24)))) .nil)) (.blt .len (.cons (.var 11) .nil)))) (.cons (.cst (.str y_bad)) (.cons (.cst (.str y_any)) (.cons (.cst (.int (0))) .nil)))))) (.cons (.set 18 (.call 13 (.cons (.var 10) (.cons (.var 16) (.cons (.var 17) .nil))))) (.cons (.iff (.or (.not (.v (.call 12 (.cons (.var 9) (.cons (.var 18) .nil))))) (.v (.cmp .ne (.var 18) (.call 14 (.cons (.var 9) (.cons (.var 16) (.cons (.var 17) .nil))))))) (.cons (.ret (.cst (.bl false))) .nil) .nil) (.cons (.wip [17, 18]) .nil)))) (.cons (.wip [17, 18]) (.cons (.ret (.andd (.cmp .eq (.var 16) (.tup (.cons (.var 6) (.cons (.var 14) (.cons (.var 15) .nil))))) (.cmp .eq (.call 10 (.cons (.var 10) (.cons (.var 12) .nil))) (.var 13)))) .nil))))))))))))))))))))))), none, false⟩
def f1 : Fd := ⟨2, 9, (.cons (.setN 2 (.lst .nil)) (.cons (.set 3 (.bin .add (.cst (.int (17))) (.blt .len (.cons (.var 0) .nil)))) (.cons (.forr (.nm 4) (.rng (.blt .len (.cons (.var 0) .nil))) (.cons (.set 6 (.blt .abs (.cons (.idx (.var 0) (.var 4)) .nil))) (.cons (.set 3 (.bin .mod (.blt .int (.cons (.bin .add (.bin .mul (.var 3) (.cst (.int (31)))) (.bin .mod (.blt .int (.cons (.var 6) .nil)) (.cst (.int (1000003))))) .nil)) (.cst (.int (2147483647))))) (.cons (.iff (.v (.cmp .ge (.var 6) (.bin .pow (.cst (.int (10))) (.cst (.int (18)))))) (.cons (.forr (.nm 5) (.rng (.cst (.int (60)))) (.cons (.iff (.v (.cmp .gt (.var 6) (.cst (.int (0))))) (.cons (.app 2 (.bin .mod (.blt .int (.cons (.var 6) .nil)) (.cst (.int (23328))))) (.cons (.set 6 (.bin .fdiv (.var 6) (.cst (.int (23328))))) .nil)) .nil) .nil)) .nil) (.cons (.forr (.nm 5) (.rng (.cst (.int (3)))) (.cons (.set 7 (.bin .mod (.blt .int (.cons (.bin .add (.bin .add (.bin .add (.bin .mul (.var 6) (.cst (.int (48271)))) (.bin .mul (.var 5) (.cst (.int (69621))))) (.bin .mul (.var 4) (.cst (.int (7919))))) (.cst (.int (11)))) .nil)) (.cst (.int (2147483647))))) (.cons (.set 8 (.bin .mod (.blt .int (.cons (.bin .add (.bin .mul (.var 7) (.cst (.int (16807)))) (.bin .fdiv (.var 7) (.cst (.int (65536))))) .nil)) (.cst (.int (2147483629))))) (.cons (.app 2 (.bin .mod (.blt .int (.cons (.bin .fdiv (.var 8) (.cst (.int (7)))) .nil)) (.cst (.int (23328))))) .nil)))) .nil)) .nil)))) (.cons (.forr (.nm 5) (.rng (.var 1)) (.cons (.set 7 (.bin .mod (.blt .int (.cons (.bin .add (.bin .add (.bin .mul (.var 3) (.cst (.int (48271)))) (.bin .mul (.var 5) (.cst (.int (69621))))) (.cst (.int (5)))) .nil)) (.cst (.int (2147483647))))) (.cons (.set 8 (.bin .mod (.blt .int (.cons (.bin .add (.bin .mul (.var 7) (.cst (.int (16807)))) (.bin .fdiv (.var 7) (.cst (.int (65536))))) .nil)) (.cst (.int (2147483629))))) (.cons (.app 2 (.bin .mod (.blt .int (.cons (.bin .fdiv (.var 8) (.cst (.int (7)))) .nil)) (.cst (.int (23328))))) .nil)))) (.cons (.ret (.slc (.var 2) .no (.so (.var 1)))) .nil))))), none, false⟩
def f2 : Fd := ⟨1, 1, (.cons (.ret (.idx (.lst (.cons (.cst (.str y_)) (.cons (.cst (.str y_abcd)) (.cons (.cst (.str y_abc)) (.cons (.cst (.str y_ab)) .nil))))) (.var 0))) .nil), none, false⟩
def f3 : Fd := ⟨5, 6, (.cons (.retF (.lc [5] (.call 5 (.cons (.idx (.var 0) (.bin .add (.var 1) (.var 5))) (.cons (.var 2) (.cons (.var 3) (.cons (.var 4) .nil))))) (.nm 5) (.rng (.var 2)) .nil)) .nil), none, true⟩
def f4 : Fd := ⟨0, 1, (.cons (.set 0 (.lst (.cons (.cst (.str y_put)) (.cons (.cst (.str y_step)) (.cons (.cst (.str y_vow)) (.cons (.cst (.str y_select)) (.cons (.cst (.str y_merge)) (.cons (.cst (.str y_firm)) (.cons (.cst (.str y_store)) (.cons (.cst (.str y_load)) (.cons (.cst (.str y_print)) (.cons (.cst (.str y_test)) (.cons (.cst (.str y_jump)) (.cons (.cst (.str y_ask)) .nil)))))))))))))) (.cons (.ret (.var 0)) .nil)), none, false⟩
def f5 : Fd := ⟨4, 10, (.cons (.set 4 (.lst (.cons (.cst (.str y__2b)) (.cons (.cst (.str y__2d)) (.cons (.cst (.str y__2a)) (.cons (.cst (.str y__26)) (.cons (.cst (.str y__3d)) (.cons (.cst (.str y__3c)) (.cons (.cst (.str y__2b_21)) (.cons (.cst (.str y__2d_21)) .nil)))))))))) (.cons (.set 5 (.idx (.var 2) (.bin .mod (.blt .int (.cons (.bin .fdiv (.var 0) (.cst (.int (12)))) .nil)) (.blt .len (.cons (.var 2) .nil))))) (.cons (.set 6 (.idx (.var 2) (.bin .mod (.blt .int (.cons (.bin .fdiv (.var 0) (.cst (.int (36)))) .nil)) (.blt .len (.cons (.var 2) .nil))))) (.cons (.set 7 (.idx (.var 2) (.bin .mod (.blt .int (.cons (.bin .fdiv (.var 0) (.cst (.int (108)))) .nil)) (.blt .len (.cons (.var 2) .nil))))) (.cons (.set 8 (.bin .mod (.blt .int (.cons (.bin .fdiv (.var 0) (.cst (.int (324)))) .nil)) (.cst (.int (72))))) (.cons (.setN 9 (.dct (.cons (.cst (.str y_put)) (.tup (.cons (.cst (.str y_put)) (.cons (.var 5) (.cons (.bin .mod (.blt .int (.cons (.var 8) .nil)) (.cst (.int (8)))) .nil)))) (.cons (.cst (.str y_step)) (.tup (.cons (.cst (.str y_step)) (.cons (.var 5) (.cons (.idx (.var 4) (.bin .mod (.blt .int (.cons (.var 8) .nil)) (.cst (.int (8))))) (.cons (.var 6) (.cons (.var 7) .nil)))))) .nil)))) (.cons (.put 9 (.cst (.str y_vow)) (.tup (.cons (.cst (.str y_step)) (.cons (.var 5) (.cons (.idx (.var 4) (.bin .add (.cst (.int (6))) (.bin .mod (.blt .int (.cons (.var 8) .nil)) (.cst (.int (2)))))) (.cons (.var 6) (.cons (.var 7) .nil))))))) (.cons (.put 9 (.cst (.str y_select)) (.tup (.cons (.cst (.str y_select)) (.cons (.var 5) (.cons (.var 6) (.cons (.var 7) (.cons (.idx (.var 2) (.bin .mod (.blt .int (.cons (.var 8) .nil)) (.blt .len (.cons (.var 2) .nil)))) .nil))))))) (.cons (.put 9 (.cst (.str y_merge)) (.tup (.cons (.cst (.str y_merge)) (.cons (.var 5) (.cons (.var 6) .nil))))) (.cons (.put 9 (.cst (.str y_firm)) (.tup (.cons (.cst (.str y_firm)) (.cons (.var 5) (.cons (.var 6) .nil))))) (.cons (.put 9 (.cst (.str y_store)) (.tup (.cons (.cst (.str y_store)) (.cons (.cst (.str y_M)) (.cons (.var 6) .nil))))) (.cons (.put 9 (.cst (.str y_load)) (.tup (.cons (.cst (.str y_load)) (.cons (.var 5) (.cons (.cst (.str y_M)) .nil))))) (.cons (.put 9 (.cst (.str y_print)) (.tup (.cons (.cst (.str y_print)) (.cons (.var 6) .nil)))) (.cons (.put 9 (.cst (.str y_test)) (.tup (.cons (.cst (.str y_test)) (.cons (.var 6) (.cons (.bin .mod (.blt .int (.cons (.var 8) .nil)) (.bin .add (.var 1) (.cst (.int (1))))) .nil))))) (.cons (.put 9 (.cst (.str y_jump)) (.tup (.cons (.cst (.str y_jump)) (.cons (.bin .mod (.blt .int (.cons (.var 8) .nil)) (.bin .add (.var 1) (.cst (.int (1))))) .nil)))) (.cons (.put 9 (.cst (.str y_ask)) (.tup (.cons (.cst (.str y_ask)) (.cons (.var 5) (.cons (.idx (.cst (.str y_HK)) (.bin .mod (.blt .int (.cons (.var 8) .nil)) (.cst (.int (2))))) (.cons (.var 6) .nil)))))) (.cons (.ret (.idx (.var 9) (.idx (.var 3) (.bin .mod (.bin .mod (.blt .int (.cons (.var 0) .nil)) (.cst (.int (12)))) (.blt .len (.cons (.var 3) .nil)))))) .nil))))))))))))))))), none, false⟩
def f6 : Fd := ⟨4, 12, (.cons (.set 4 (.cst (.str y_abcdefghijklmnopqrstuvwxyz))) (.cons (.set 5 (.bin .add (.blt .list (.cons (.var 2) .nil)) (.blt .list (.cons (.var 3) .nil)))) (.cons (.setN 6 (.lst .nil)) (.cons (.forr (.nm 7) (.val (.var 1)) (.cons (.set 5 (.bin .add (.var 5) (.lc [11] (.var 11) (.nm 11) (.val (.slc (.var 7) (.so (.cst (.int (1)))) .no)) (.cons (.v (.cmp .inn (.blt .str (.cons (.var 11) .nil)) (.var 4))) .nil)))) (.cons (.iff (.v (.cmp .eq (.idx (.var 7) (.cst (.int (0)))) (.cst (.str y_store)))) (.cons (.app 6 (.idx (.var 7) (.cst (.int (1))))) .nil) .nil) (.cons (.iff (.v (.cmp .eq (.idx (.var 7) (.cst (.int (0)))) (.cst (.str y_load)))) (.cons (.app 6 (.idx (.var 7) (.cst (.int (2))))) .nil) .nil) (.cons (.wip [7]) .nil))))) (.cons (.wip [7]) (.cons (.setN 8 (.dct (.cons (.cst (.str y_width)) (.var 0) (.cons (.cst (.str y_code)) (.blt .list (.cons (.var 1) .nil)) (.cons (.cst (.str y_inputs)) (.blt .list (.cons (.var 2) .nil)) (.cons (.cst (.str y_outputs)) (.blt .list (.cons (.var 3) .nil)) .nil)))))) (.cons (.put 8 (.cst (.str y_names)) (.lc [9] (.var 9) (.nm 9) (.val (.var 4)) (.cons (.v (.cmp .inn (.var 9) (.var 5))) .nil))) (.cons (.put 8 (.cst (.str y_cells)) (.lc [10] (.var 10) (.nm 10) (.val (.upp (.var 4))) (.cons (.v (.cmp .inn (.var 10) (.var 6))) .nil))) (.cons (.frz 8) (.cons (.ret (.var 8)) .nil)))))))))), none, false⟩
def f7 : Fd := ⟨5, 11, (.cons (.iff (.or (.not (.v (.call 15 (.cons (.var 1) (.cons (.cst (.int (3))) .nil))))) (.or (.v (.cmp .eq (.var 1) (.cst (.int (0))))) (.v (.cmp .gt (.blt .len (.cons (.var 2) .nil)) (.glo 0))))) (.cons .never .nil) .nil) (.cons (.forr (.nm 5) (.rng (.blt .len (.cons (.var 2) .nil))) (.cons (.iff (.not (.v (.call 16 (.cons (.idx (.var 2) (.var 5)) (.cons (.blt .len (.cons (.var 2) .nil)) .nil))))) (.cons .never .nil) .nil) (.cons (.wip [5]) .nil))) (.cons (.wip [5]) (.cons (.forr (.tp [7, 8]) (.val (.tup (.cons (.tup (.cons (.var 3) (.cons (.cst (.int (3))) .nil))) (.cons (.tup (.cons (.var 4) (.cons (.cst (.int (2))) .nil))) .nil)))) (.cons (.set 9 (.lcR [10] (.var 10) (.nm 10) (.var 7) (.cons (.v (.call 17 (.cons (.var 10) (.cons (.glo 1) .nil)))) .nil))) (.cons (.iff (.or (.v (.cmp .ne (.blt .len (.cons (.var 9) .nil)) (.blt .len (.cons (.var 7) .nil)))) (.or (.v (.cmp .ne (.slen [10] 10 (.var 9)) (.blt .len (.cons (.var 7) .nil)))) (.v (.cmp .gt (.blt .len (.cons (.var 7) .nil)) (.var 8))))) (.cons .never .nil) .nil) (.cons (.wip [7, 8, 9]) .nil)))) (.cons (.wip [7, 8, 9]) (.cons (.set 6 (.bin .add (.bin .add (.call 18 (.cons (.var 2) (.cons (.cst (.str y_r)) .nil))) (.blt .list (.cons (.var 3) .nil))) (.blt .list (.cons (.var 4) .nil)))) (.cons (.satt (.var 0) y_width (.var 1)) (.cons (.satt (.var 0) y_code (.blt .tuple (.cons (.var 2) .nil))) (.cons (.satt (.var 0) y_inputs (.blt .tuple (.cons (.var 3) .nil))) (.cons (.satt (.var 0) y_outputs (.blt .tuple (.cons (.var 4) .nil))) (.cons (.satt (.var 0) y_registers (.blt .tuple (.cons (.srt .str (.blt .list (.cons (.dc [10] (.var 10) (.cst (.bl true)) (.nm 10) (.val (.var 6)) .nil) .nil))) .nil))) (.cons (.satt (.var 0) y_cells (.blt .tuple (.cons (.srt .str (.call 18 (.cons (.var 2) (.cons (.cst (.str y_m)) .nil)))) .nil))) (.cons (.iff (.v (.cmp .gt (.bin .add (.blt .len (.cons (.att (.var 0) y_registers) .nil)) (.blt .len (.cons (.att (.var 0) y_cells) .nil))) (.idx (.glo 2) (.var 1)))) (.cons .never .nil) .nil) .nil))))))))))))), none, false⟩
def f8 : Fd := ⟨1, 2, (.cons (.ret (.lc [1] (.var 1) (.nm 1) (.rng (.call 19 (.cons (.var 0) .nil))) .nil)) .nil), none, false⟩
def f9 : Fd := ⟨4, 5, (.cons (.ret (.blt .tuple (.cons (.lc [4] (.idx (.var 2) (.bin .mod (.blt .int (.cons (.idx (.var 0) (.bin .add (.var 1) (.var 4))) .nil)) (.blt .len (.cons (.var 2) .nil)))) (.nm 4) (.rng (.var 3)) .nil) .nil))) .nil), none, false⟩
def f10 : Fd := ⟨2, 6, (.cons (.set 2 (.dc [3] (.idx (.att (.var 0) y_inputs) (.var 3)) (.idx (.var 1) (.var 3)) (.nm 3) (.rng (.blt .len (.cons (.att (.var 0) y_inputs) .nil))) .nil)) (.cons (.ret (.tup (.cons (.cst (.int (0))) (.cons (.blt .tuple (.cons (.lc [4] (.bm .get (.var 2) (.cons (.var 4) (.cons (.cst (.int (0))) .nil))) (.nm 4) (.val (.att (.var 0) y_registers)) .nil) .nil)) (.cons (.blt .tuple (.cons (.lc [5] (.cst .non) (.nm 5) (.val (.att (.var 0) y_cells)) .nil) .nil)) .nil))))) .nil)), none, false⟩
def f11 : Fd := ⟨2, 6, (.cons (.setN 2 (.lst .nil)) (.cons (.forr (.nm 3) (.val (.idx (.var 0) (.cst (.str y_names)))) (.cons (.set 4 (.cst (.int (0)))) (.cons (.iff (.v (.cmp .inn (.var 3) (.idx (.var 0) (.cst (.str y_inputs))))) (.cons (.set 4 (.idx (.var 1) (.bm .lindex (.idx (.var 0) (.cst (.str y_inputs))) (.cons (.var 3) .nil)))) .nil) .nil) (.cons (.app 2 (.var 4)) (.cons (.wip [3, 4]) .nil))))) (.cons (.wip [3, 4]) (.cons (.ret (.tup (.cons (.cst (.int (0))) (.cons (.blt .tuple (.cons (.var 2) .nil)) (.cons (.blt .tuple (.cons (.lc [5] (.cst .non) (.nm 5) (.val (.idx (.var 0) (.cst (.str y_cells)))) .nil) .nil)) .nil))))) .nil)))), none, false⟩
def f12 : Fd := ⟨2, 4, (.cons (.iff (.or (.not (.v (.isi (.var 1) .tuple))) (.v (.cmp .ne (.blt .len (.cons (.var 1) .nil)) (.cst (.int (3)))))) (.cons (.ret (.cst (.bl false))) .nil) .nil) (.cons (.iff (.or (.not (.v (.isi (.idx (.var 1) (.cst (.int (0)))) .int))) (.or (.v (.isi (.idx (.var 1) (.cst (.int (0)))) .bool)) (.not (.v (.chn .le .le (.cst (.int (0))) (.idx (.var 1) (.cst (.int (0)))) (.blt .len (.cons (.idx (.var 0) (.cst (.str y_code))) .nil))))))) (.cons (.ret (.cst (.bl false))) .nil) .nil) (.cons (.iff (.or (.not (.v (.isi (.idx (.var 1) (.cst (.int (1)))) .tuple))) (.not (.v (.isi (.idx (.var 1) (.cst (.int (2)))) .tuple)))) (.cons (.ret (.cst (.bl false))) .nil) .nil) (.cons (.iff (.or (.v (.cmp .ne (.blt .len (.cons (.idx (.var 1) (.cst (.int (1)))) .nil)) (.blt .len (.cons (.idx (.var 0) (.cst (.str y_names))) .nil)))) (.v (.cmp .ne (.blt .len (.cons (.idx (.var 1) (.cst (.int (2)))) .nil)) (.blt .len (.cons (.idx (.var 0) (.cst (.str y_cells))) .nil))))) (.cons (.ret (.cst (.bl false))) .nil) .nil) (.cons (.forr (.nm 2) (.val (.idx (.var 1) (.cst (.int (1))))) (.cons (.iff (.not (.v (.call 20 (.cons (.idx (.var 0) (.cst (.str y_width))) (.cons (.var 2) .nil))))) (.cons (.ret (.cst (.bl false))) .nil) .nil) (.cons (.wip [2]) .nil))) (.cons (.wip [2]) (.cons (.forr (.nm 3) (.val (.idx (.var 1) (.cst (.int (2))))) (.cons (.iff (.and (.v (.cmp .notn (.var 3) (.cst .non))) (.not (.v (.call 20 (.cons (.idx (.var 0) (.cst (.str y_width))) (.cons (.var 3) .nil)))))) (.cons (.ret (.cst (.bl false))) .nil) .nil) (.cons (.wip [3]) .nil))) (.cons (.wip [3]) (.cons (.ret (.cst (.bl true))) .nil))))))))), none, false⟩
def f13 : Fd := ⟨3, 3, (.cons (.ret (.call 21 (.cons (.var 0) (.cons (.var 1) (.cons (.idx (.idx (.att (.var 0) y_code) (.idx (.var 1) (.cst (.int (0))))) (.cst (.int (1)))) (.cons (.var 2) .nil)))))) .nil), none, false⟩
def f14 : Fd := ⟨3, 4, (.cons (.set 3 (.idx (.idx (.var 0) (.cst (.str y_code))) (.idx (.var 1) (.cst (.int (0)))))) (.cons (.ret (.tup (.cons (.bin .add (.idx (.var 1) (.cst (.int (0)))) (.cst (.int (1)))) (.cons (.call 22 (.cons (.idx (.var 1) (.cst (.int (1)))) (.cons (.bm .lindex (.idx (.var 0) (.cst (.str y_names))) (.cons (.idx (.var 3) (.cst (.int (1)))) .nil)) (.cons (.var 2) .nil)))) (.cons (.idx (.var 1) (.cst (.int (2)))) .nil))))) .nil)), none, false⟩
def f15 : Fd := ⟨2, 2, (.cons (.ret (.andd (.isi (.var 0) .int) (.andd (.nott (.isi (.var 0) .bool)) (.chn .le .le (.cst (.int (0))) (.var 0) (.var 1))))) .nil), none, false⟩
def f16 : Fd := ⟨2, 4, (.cons (.iff (.or (.v (.cmp .eq (.blt .len (.cons (.var 0) .nil)) (.cst (.int (0))))) (.v (.cmp .nin (.idx (.var 0) (.cst (.int (0)))) (.glo 3)))) (.cons (.ret (.cst (.bl false))) .nil) .nil) (.cons (.set 2 (.idx (.glo 3) (.idx (.var 0) (.cst (.int (0)))))) (.cons (.iff (.v (.cmp .ne (.blt .len (.cons (.var 0) .nil)) (.bin .add (.blt .len (.cons (.var 2) .nil)) (.cst (.int (1)))))) (.cons (.ret (.cst (.bl false))) .nil) .nil) (.cons (.ret (.blt .all (.cons (.lc [3] (.call 23 (.cons (.idx (.var 0) (.bin .add (.var 3) (.cst (.int (1))))) (.cons (.idx (.var 2) (.var 3)) (.cons (.var 1) .nil)))) (.nm 3) (.rng (.blt .len (.cons (.var 2) .nil))) .nil) .nil))) .nil)))), none, false⟩
def f17 : Fd := ⟨2, 2, (.cons (.ret (.andd (.isi (.var 0) .str) (.andd (.cmp .eq (.blt .len (.cons (.var 0) .nil)) (.cst (.int (1)))) (.cmp .inn (.var 0) (.var 1))))) .nil), none, false⟩
def f18 : Fd := ⟨2, 6, (.cons (.setN 2 (.dct .nil)) (.cons (.forR (.nm 3) (.var 0) (.cons (.set 4 (.idx (.glo 3) (.idx (.var 3) (.cst (.int (0)))))) (.cons (.forr (.nm 5) (.rng (.blt .len (.cons (.var 4) .nil))) (.cons (.iff (.and (.v (.cmp .eq (.idx (.var 4) (.var 5)) (.var 1))) (.or (.v (.cmp .eq (.var 1) (.cst (.str y_r)))) (.v (.cmp .ne (.idx (.var 3) (.cst (.int (0)))) (.cst (.str y_ask)))))) (.cons (.put 2 (.idx (.var 3) (.bin .add (.var 5) (.cst (.int (1))))) (.cst (.bl true))) .nil) .nil) (.cons (.wip [5]) .nil))) (.cons (.wip [5]) (.cons (.wip [3, 4, 5]) .nil))))) (.cons (.wip [3, 4, 5]) (.cons (.ret (.blt .list (.cons (.var 2) .nil))) .nil)))), none, false⟩
def f19 : Fd := ⟨1, 1, (.cons (.ret (.idx (.lst (.cons (.cst (.int (1))) (.cons (.cst (.int (2))) (.cons (.cst (.int (4))) (.cons (.cst (.int (8))) .nil))))) (.var 0))) .nil), none, false⟩
def f20 : Fd := ⟨2, 2, (.cons (.ret (.orr (.cmp .eq (.var 1) (.cst (.str y_any))) (.orr (.cmp .eq (.var 1) (.cst (.str y_bad))) (.call 24 (.cons (.var 0) (.cons (.var 1) .nil)))))) .nil), none, false⟩
def f21 : Fd := ⟨4, 5, (.cons (.set 4 (.bm .tindex (.att (.var 0) y_registers) (.cons (.var 2) .nil))) (.cons (.ret (.tup (.cons (.bin .add (.idx (.var 1) (.cst (.int (0)))) (.cst (.int (1)))) (.cons (.bin .add (.bin .add (.slc (.idx (.var 1) (.cst (.int (1)))) .no (.so (.var 4))) (.tup (.cons (.var 3) .nil))) (.slc (.idx (.var 1) (.cst (.int (1)))) (.so (.bin .add (.var 4) (.cst (.int (1))))) .no)) (.cons (.idx (.var 1) (.cst (.int (2)))) .nil))))) .nil)), none, false⟩
def f22 : Fd := ⟨3, 3, (.cons (.ret (.bin .add (.bin .add (.slc (.var 0) .no (.so (.var 1))) (.tup (.cons (.var 2) .nil))) (.slc (.var 0) (.so (.bin .add (.var 1) (.cst (.int (1))))) .no))) .nil), none, false⟩
def f23 : Fd := ⟨3, 3, (.cons (.iff (.v (.cmp .eq (.var 1) (.cst (.str y_r)))) (.cons (.ret (.call 17 (.cons (.var 0) (.cons (.glo 1) .nil)))) .nil) .nil) (.cons (.iff (.v (.cmp .eq (.var 1) (.cst (.str y_m)))) (.cons (.ret (.call 17 (.cons (.var 0) (.cons (.glo 4) .nil)))) .nil) .nil) (.cons (.iff (.v (.cmp .eq (.var 1) (.cst (.str y_k)))) (.cons (.ret (.call 15 (.cons (.var 0) (.cons (.cst (.int (7))) .nil)))) .nil) .nil) (.cons (.iff (.v (.cmp .eq (.var 1) (.cst (.str y_p)))) (.cons (.ret (.call 15 (.cons (.var 0) (.cons (.var 2) .nil)))) .nil) .nil) (.cons (.ret (.andd (.isi (.var 0) .str) (.cmp .inn (.var 0) (.glo 5)))) .nil))))), none, false⟩
def f24 : Fd := ⟨2, 2, (.cons (.ret (.andd (.isi (.var 1) .int) (.andd (.nott (.isi (.var 1) .bool)) (.chn .le .lt (.cst (.int (0))) (.var 1) (.call 19 (.cons (.var 0) .nil)))))) .nil), none, false⟩
def FL : List Fd := [f0, f1, f2, f3, f4, f5, f6, f7, f8, f9, f10, f11, f12, f13, f14, f15, f16, f17, f18, f19, f20, f21, f22, f23, f24]
def F (i : Nat) : Option Fd := bif Nat.blt i 25 then (bif Nat.blt i 12 then bif Nat.blt i 6 then bif Nat.blt i 3 then bif Nat.blt i 1 then some f0 else bif Nat.blt i 2 then some f1 else some f2 else bif Nat.blt i 4 then some f3 else bif Nat.blt i 5 then some f4 else some f5 else bif Nat.blt i 9 then bif Nat.blt i 7 then some f6 else bif Nat.blt i 8 then some f7 else some f8 else bif Nat.blt i 10 then some f9 else bif Nat.blt i 11 then some f10 else some f11 else bif Nat.blt i 18 then bif Nat.blt i 15 then bif Nat.blt i 13 then some f12 else bif Nat.blt i 14 then some f13 else some f14 else bif Nat.blt i 16 then some f15 else bif Nat.blt i 17 then some f16 else some f17 else bif Nat.blt i 21 then bif Nat.blt i 19 then some f18 else bif Nat.blt i 20 then some f19 else some f20 else bif Nat.blt i 23 then bif Nat.blt i 22 then some f21 else some f22 else bif Nat.blt i 24 then some f23 else some f24) else none
def L : LT where
  cl := ["Piece"]
  fn := ([(("law" : PySem.Str), (none : Option PySem.Str)), (("_law_draws" : PySem.Str), (none : Option PySem.Str)), (("_law_letters" : PySem.Str), (none : Option PySem.Str)), (("_law_code" : PySem.Str), (none : Option PySem.Str)), (("_law_every_kind" : PySem.Str), (none : Option PySem.Str)), (("_law_row" : PySem.Str), (none : Option PySem.Str)), (("_law_piece" : PySem.Str), (none : Option PySem.Str)), (("Piece" : PySem.Str), (some "__init__" : Option PySem.Str)), (("_law_words" : PySem.Str), (none : Option PySem.Str)), (("_law_held" : PySem.Str), (none : Option PySem.Str)), (("first_state" : PySem.Str), (none : Option PySem.Str)), (("_law_first" : PySem.Str), (none : Option PySem.Str)), (("_law_is_state" : PySem.Str), (none : Option PySem.Str)), (("answered" : PySem.Str), (none : Option PySem.Str)), (("_law_answered" : PySem.Str), (none : Option PySem.Str)), (("within" : PySem.Str), (none : Option PySem.Str)), (("valid" : PySem.Str), (none : Option PySem.Str)), (("one_of" : PySem.Str), (none : Option PySem.Str)), (("named" : PySem.Str), (none : Option PySem.Str)), (("_law_size" : PySem.Str), (none : Option PySem.Str)), (("_law_is_standing" : PySem.Str), (none : Option PySem.Str)), (("with_register" : PySem.Str), (none : Option PySem.Str)), (("_law_put" : PySem.Str), (none : Option PySem.Str)), (("fits" : PySem.Str), (none : Option PySem.Str)), (("_law_is_word" : PySem.Str), (none : Option PySem.Str))] : List (PySem.Str × Option PySem.Str))
  ps := ([(["_law_script"] : List PySem.Str), (["_law_script", "_law_count"] : List PySem.Str), (["_law_width"] : List PySem.Str), (["_law_draws_here", "_law_at", "_law_size_here", "_law_letters_here", "_law_kinds"] : List PySem.Str), ([] : List PySem.Str), (["_law_draw", "_law_size_here", "_law_letters_here", "_law_kinds"] : List PySem.Str), (["_law_width", "_law_code_here", "_law_inputs", "_law_outputs"] : List PySem.Str), (["self", "width", "code", "inputs", "outputs"] : List PySem.Str), (["_law_width"] : List PySem.Str), (["_law_draws_here", "_law_at", "_law_members", "_law_count"] : List PySem.Str), (["piece", "start"] : List PySem.Str), (["_law_piece_here", "_law_start"] : List PySem.Str), (["_law_piece_here", "_law_state"] : List PySem.Str), (["piece", "state", "standing"] : List PySem.Str), (["_law_piece_here", "_law_state", "_law_standing"] : List PySem.Str), (["part", "most"] : List PySem.Str), (["instruction", "size"] : List PySem.Str), (["part", "letters"] : List PySem.Str), (["code", "letter"] : List PySem.Str), (["_law_width"] : List PySem.Str), (["_law_width", "_law_standing"] : List PySem.Str), (["piece", "state", "letter", "standing"] : List PySem.Str), (["_law_held_here", "_law_at", "_law_standing"] : List PySem.Str), (["part", "letter", "size"] : List PySem.Str), (["_law_width", "_law_word"] : List PySem.Str)] : List (List PySem.Str))
  gl := [("MOST", (.int (24))), ("SMALL", (.str y_abcdefghijklmnopqrstuvwxyz)), ("PLACES", (.tup [(.int (0)), (.int (6)), (.int (4)), (.int (3))])), ("FORMS", (.dct [((.str y_put), (.str y_rk)), ((.str y_step), (.str y_rsrr)), ((.str y_select), (.str y_rrrr)), ((.str y_merge), (.str y_rr)), ((.str y_firm), (.str y_rr)), ((.str y_store), (.str y_mr)), ((.str y_load), (.str y_rm)), ((.str y_print), (.str y_r)), ((.str y_test), (.str y_rp)), ((.str y_jump), (.str y_p)), ((.str y_ask), (.str y_rmr))])), ("GREAT", (.str y_ABCDEFGHIJKLMNOPQRSTUVWXYZ)), ("SIGNS", (.tup [(.str y__2b), (.str y__2d), (.str y__2a), (.str y__26), (.str y__3d), (.str y__3c), (.str y__2b_21), (.str y__2d_21)]))]
  fr := ["abs", "all", "bool", "int", "isinstance", "len", "list", "range", "sorted", "str", "super", "tuple"]
  mt := []
  ini := [(0, 7)]
  fl := [(0, y_width), (0, y_code), (0, y_inputs), (0, y_outputs), (0, y_registers), (0, y_cells)]
  sb := [[true]]
  frs := [3]
  df := []
def top (i : Nat) : Stmt := PySem.Challenge.pw_badvalues_k10_first_and_answered.main.body.getD i (.Pass ⟨0, 0, 0, 0⟩)
def inn (i j : Nat) : Stmt := (C8.clsBody (top i)).getD j (.Pass ⟨0, 0, 0, 0⟩)
def N0 : List Str := ["_law_script", "_law_draws_here", "_law_width", "_law_letters_here", "_law_size_here", "_law_code_here", "_law_point", "_law_inputs", "_law_outputs", "_law_own", "_law_piece_here", "_law_members", "_law_start", "_law_first_here", "_law_held_here", "_law_cells", "_law_state", "_law_standing", "_law_said", "_law_x", "_law_k"]
def N1 : List Str := ["_law_script", "_law_count", "_law_draws_here", "_law_seed", "_law_at", "_law_k", "_law_cell", "_law_one", "_law_two"]
def N2 : List Str := ["_law_width"]
def N3 : List Str := ["_law_draws_here", "_law_at", "_law_size_here", "_law_letters_here", "_law_kinds", "_law_k"]
def N4 : List Str := ["_law_kinds"]
def N5 : List Str := ["_law_draw", "_law_size_here", "_law_letters_here", "_law_kinds", "_law_signs", "_law_x", "_law_y", "_law_z", "_law_rest", "_law_rows"]
def N6 : List Str := ["_law_width", "_law_code_here", "_law_inputs", "_law_outputs", "_law_small", "_law_names", "_law_cells", "_law_row_here", "_law_piece_here", "_law_x", "_law_m", "_law_part"]
def N7 : List Str := ["self", "width", "code", "inputs", "outputs", "point", "letters", "row", "most", "good", "x"]
def N8 : List Str := ["_law_width", "_law_k"]
def N9 : List Str := ["_law_draws_here", "_law_at", "_law_members", "_law_count", "_law_k"]
def N10 : List Str := ["piece", "start", "given", "k", "x", "m"]
def N11 : List Str := ["_law_piece_here", "_law_start", "_law_held_here", "_law_x", "_law_standing", "_law_m"]
def N12 : List Str := ["_law_piece_here", "_law_state", "_law_standing", "_law_content"]
def N13 : List Str := ["piece", "state", "standing"]
def N14 : List Str := ["_law_piece_here", "_law_state", "_law_standing", "_law_row_here"]
def N15 : List Str := ["part", "most"]
def N16 : List Str := ["instruction", "size", "form", "k"]
def N17 : List Str := ["part", "letters"]
def N18 : List Str := ["code", "letter", "found", "instruction", "form", "k"]
def N19 : List Str := ["_law_width"]
def N20 : List Str := ["_law_width", "_law_standing"]
def N21 : List Str := ["piece", "state", "letter", "standing", "at"]
def N22 : List Str := ["_law_held_here", "_law_at", "_law_standing"]
def N23 : List Str := ["part", "letter", "size"]
def N24 : List Str := ["_law_width", "_law_word"]
def T : Tb := L.tb 0
end K10

set_option maxRecDepth 100000
set_option maxHeartbeats 0
namespace K10
open PySem PySem.Spec PyProof.Rows L2 MP
def fnL : List (Nat × He.DefD) := ([(((0 : Nat), dd ("law", none) "law" "law" (top 36)) : Nat × He.DefD), (((1 : Nat), dd ("_law_draws", none) "_law_draws" "_law_draws" (top 21)) : Nat × He.DefD), (((2 : Nat), dd ("_law_letters", none) "_law_letters" "_law_letters" (top 30)) : Nat × He.DefD), (((3 : Nat), dd ("_law_code", none) "_law_code" "_law_code" (top 29)) : Nat × He.DefD), (((4 : Nat), dd ("_law_every_kind", none) "_law_every_kind" "_law_every_kind" (top 31)) : Nat × He.DefD), (((5 : Nat), dd ("_law_row", none) "_law_row" "_law_row" (top 28)) : Nat × He.DefD), (((6 : Nat), dd ("_law_piece", none) "_law_piece" "_law_piece" (top 24)) : Nat × He.DefD), (((7 : Nat), dd ("Piece", some "__init__") "__init__" "Piece.__init__" (inn 19 0) [.adr (He.dflAt ("Piece", some "__init__") 0), .adr (He.dflAt ("Piece", some "__init__") 1)]) : Nat × He.DefD), (((8 : Nat), dd ("_law_words", none) "_law_words" "_law_words" (top 23)) : Nat × He.DefD), (((9 : Nat), dd ("_law_held", none) "_law_held" "_law_held" (top 32)) : Nat × He.DefD), (((10 : Nat), dd ("first_state", none) "first_state" "first_state" (top 1)) : Nat × He.DefD), (((11 : Nat), dd ("_law_first", none) "_law_first" "_law_first" (top 26)) : Nat × He.DefD), (((12 : Nat), dd ("_law_is_state", none) "_law_is_state" "_law_is_state" (top 35)) : Nat × He.DefD), (((13 : Nat), dd ("answered", none) "answered" "answered" (top 3)) : Nat × He.DefD), (((14 : Nat), dd ("_law_answered", none) "_law_answered" "_law_answered" (top 27)) : Nat × He.DefD), (((15 : Nat), dd ("within", none) "within" "within" (top 15)) : Nat × He.DefD), (((16 : Nat), dd ("valid", none) "valid" "valid" (top 17)) : Nat × He.DefD), (((17 : Nat), dd ("one_of", none) "one_of" "one_of" (top 14)) : Nat × He.DefD), (((18 : Nat), dd ("named", none) "named" "named" (top 18)) : Nat × He.DefD), (((19 : Nat), dd ("_law_size", none) "_law_size" "_law_size" (top 22)) : Nat × He.DefD), (((20 : Nat), dd ("_law_is_standing", none) "_law_is_standing" "_law_is_standing" (top 34)) : Nat × He.DefD), (((21 : Nat), dd ("with_register", none) "with_register" "with_register" (top 2)) : Nat × He.DefD), (((22 : Nat), dd ("_law_put", none) "_law_put" "_law_put" (top 25)) : Nat × He.DefD), (((23 : Nat), dd ("fits", none) "fits" "fits" (top 16)) : Nat × He.DefD), (((24 : Nat), dd ("_law_is_word", none) "_law_is_word" "_law_is_word" (top 33)) : Nat × He.DefD)] : List (Nat × He.DefD))
def supL : List (Nat × SupAt) := []
abbrev Rw : PySem.W.OpenRow := PySem.W.OpenLaw.row PySem.Challenge.rw_badvalues_k10_first_and_answered
abbrev Pw : Program := PySem.Challenge.rw_badvalues_k10_first_and_answered.prog
def W : LawD := ⟨Pw, L, fnL, supL⟩
def names : List Str := ["first_state", "with_register", "answered", "BadValuesError", "BadPiece", "SMALL", "GREAT", "SIGNS", "PLACES", "MOST", "FORMS", "one_of", "within", "fits", "valid", "named", "Piece", "_law_draws", "_law_size", "_law_words", "_law_piece", "_law_put", "_law_first", "_law_answered", "_law_row", "_law_code", "_law_letters", "_law_every_kind", "_law_held", "_law_is_word", "_law_is_standing", "_law_is_state"]
theorem runf (w : World) : HandSHeadRun.RunEq Rw (PySem.W.view Rw.prog [36]) W.hk W.ob 9000 names (w.withFollow "special-get-raises" false) := by
  intro os
  kernel_rfl
theorem runt (w : World) : HandSHeadRun.RunEq Rw (PySem.W.view Rw.prog [36]) W.hk W.ob 9000 names (w.withFollow "special-get-raises" true) := by
  intro os
  kernel_rfl
theorem runH (w : World) : HandSHeadRun.RunEq Rw (PySem.W.view Rw.prog [36]) W.hk W.ob 9000 names w := PySem.W.byRow2 "special-get-raises" (P := fun w => HandSHeadRun.RunEq Rw (PySem.W.view Rw.prog [36]) W.hk W.ob 9000 names w) runf runt w
end K10

set_option maxRecDepth 100000
set_option maxHeartbeats 0
namespace K10
open PySem PySem.Spec PyProof.Rows L2 MP
theorem sc0 : FnScope N0 ["_law_script"] (defScope (top 36)) := ⟨rfl, rfl, rfl, by decide +kernel, rfl, by decide +kernel, by decide +kernel⟩
theorem sc1 : FnScope N1 ["_law_script", "_law_count"] (defScope (top 21)) := ⟨rfl, rfl, rfl, by decide +kernel, rfl, by decide +kernel, by decide +kernel⟩
theorem sc2 : FnScope N2 ["_law_width"] (defScope (top 30)) := ⟨rfl, rfl, rfl, by decide +kernel, rfl, by decide +kernel, by decide +kernel⟩
theorem sc3 : FnScope N3 ["_law_draws_here", "_law_at", "_law_size_here", "_law_letters_here", "_law_kinds"] (defScope (top 29)) := ⟨rfl, rfl, rfl, by decide +kernel, rfl, by decide +kernel, by decide +kernel⟩
theorem sc4 : FnScope N4 [] (defScope (top 31)) := ⟨rfl, rfl, rfl, by decide +kernel, rfl, by decide +kernel, by decide +kernel⟩
theorem sc5 : FnScope N5 ["_law_draw", "_law_size_here", "_law_letters_here", "_law_kinds"] (defScope (top 28)) := ⟨rfl, rfl, rfl, by decide +kernel, rfl, by decide +kernel, by decide +kernel⟩
theorem sc6 : FnScope N6 ["_law_width", "_law_code_here", "_law_inputs", "_law_outputs"] (defScope (top 24)) := ⟨rfl, rfl, rfl, by decide +kernel, rfl, by decide +kernel, by decide +kernel⟩
theorem sc7 : FnScope N7 ["self", "width", "code", "inputs", "outputs"] (defScope (inn 19 0)) := ⟨rfl, rfl, rfl, by decide +kernel, rfl, by decide +kernel, by decide +kernel⟩
theorem sc8 : FnScope N8 ["_law_width"] (defScope (top 23)) := ⟨rfl, rfl, rfl, by decide +kernel, rfl, by decide +kernel, by decide +kernel⟩
theorem sc9 : FnScope N9 ["_law_draws_here", "_law_at", "_law_members", "_law_count"] (defScope (top 32)) := ⟨rfl, rfl, rfl, by decide +kernel, rfl, by decide +kernel, by decide +kernel⟩
theorem sc10 : FnScope N10 ["piece", "start"] (defScope (top 1)) := ⟨rfl, rfl, rfl, by decide +kernel, rfl, by decide +kernel, by decide +kernel⟩
theorem sc11 : FnScope N11 ["_law_piece_here", "_law_start"] (defScope (top 26)) := ⟨rfl, rfl, rfl, by decide +kernel, rfl, by decide +kernel, by decide +kernel⟩
theorem sc12 : FnScope N12 ["_law_piece_here", "_law_state"] (defScope (top 35)) := ⟨rfl, rfl, rfl, by decide +kernel, rfl, by decide +kernel, by decide +kernel⟩
theorem sc13 : FnScope N13 ["piece", "state", "standing"] (defScope (top 3)) := ⟨rfl, rfl, rfl, by decide +kernel, rfl, by decide +kernel, by decide +kernel⟩
theorem sc14 : FnScope N14 ["_law_piece_here", "_law_state", "_law_standing"] (defScope (top 27)) := ⟨rfl, rfl, rfl, by decide +kernel, rfl, by decide +kernel, by decide +kernel⟩
theorem sc15 : FnScope N15 ["part", "most"] (defScope (top 15)) := ⟨rfl, rfl, rfl, by decide +kernel, rfl, by decide +kernel, by decide +kernel⟩
theorem sc16 : FnScope N16 ["instruction", "size"] (defScope (top 17)) := ⟨rfl, rfl, rfl, by decide +kernel, rfl, by decide +kernel, by decide +kernel⟩
theorem sc17 : FnScope N17 ["part", "letters"] (defScope (top 14)) := ⟨rfl, rfl, rfl, by decide +kernel, rfl, by decide +kernel, by decide +kernel⟩
theorem sc18 : FnScope N18 ["code", "letter"] (defScope (top 18)) := ⟨rfl, rfl, rfl, by decide +kernel, rfl, by decide +kernel, by decide +kernel⟩
theorem sc19 : FnScope N19 ["_law_width"] (defScope (top 22)) := ⟨rfl, rfl, rfl, by decide +kernel, rfl, by decide +kernel, by decide +kernel⟩
theorem sc20 : FnScope N20 ["_law_width", "_law_standing"] (defScope (top 34)) := ⟨rfl, rfl, rfl, by decide +kernel, rfl, by decide +kernel, by decide +kernel⟩
theorem sc21 : FnScope N21 ["piece", "state", "letter", "standing"] (defScope (top 2)) := ⟨rfl, rfl, rfl, by decide +kernel, rfl, by decide +kernel, by decide +kernel⟩
theorem sc22 : FnScope N22 ["_law_held_here", "_law_at", "_law_standing"] (defScope (top 25)) := ⟨rfl, rfl, rfl, by decide +kernel, rfl, by decide +kernel, by decide +kernel⟩
theorem sc23 : FnScope N23 ["part", "letter", "size"] (defScope (top 16)) := ⟨rfl, rfl, rfl, by decide +kernel, rfl, by decide +kernel, by decide +kernel⟩
theorem sc24 : FnScope N24 ["_law_width", "_law_word"] (defScope (top 33)) := ⟨rfl, rfl, rfl, by decide +kernel, rfl, by decide +kernel, by decide +kernel⟩
section
variable {K : PySem.W.Frag} {fdat : Nat → FuncData}
theorem k0 : chkB (L.tx K fdat) N0 (defScope (top 36)) f0.body (defBody (top 36)) = true := by kernel_rfl
theorem k1 : chkB (L.tx K fdat) N1 (defScope (top 21)) f1.body (defBody (top 21)) = true := by kernel_rfl
theorem k2 : chkB (L.tx K fdat) N2 (defScope (top 30)) f2.body (defBody (top 30)) = true := by kernel_rfl
theorem k3 : chkB (L.tx K fdat) N3 (defScope (top 29)) f3.body (defBody (top 29)) = true := by kernel_rfl
theorem k4 : chkB (L.tx K fdat) N4 (defScope (top 31)) f4.body (defBody (top 31)) = true := by kernel_rfl
theorem k5 : chkB (L.tx K fdat) N5 (defScope (top 28)) f5.body (defBody (top 28)) = true := by kernel_rfl
theorem k6 : chkB (L.tx K fdat) N6 (defScope (top 24)) f6.body (defBody (top 24)) = true := by kernel_rfl
theorem k7 : chkB (L.tx K fdat) N7 (defScope (inn 19 0)) f7.body (defBody (inn 19 0)) = true := by kernel_rfl
theorem k8 : chkB (L.tx K fdat) N8 (defScope (top 23)) f8.body (defBody (top 23)) = true := by kernel_rfl
theorem k9 : chkB (L.tx K fdat) N9 (defScope (top 32)) f9.body (defBody (top 32)) = true := by kernel_rfl
theorem k10 : chkB (L.tx K fdat) N10 (defScope (top 1)) f10.body (defBody (top 1)) = true := by kernel_rfl
theorem k11 : chkB (L.tx K fdat) N11 (defScope (top 26)) f11.body (defBody (top 26)) = true := by kernel_rfl
theorem k12 : chkB (L.tx K fdat) N12 (defScope (top 35)) f12.body (defBody (top 35)) = true := by kernel_rfl
theorem k13 : chkB (L.tx K fdat) N13 (defScope (top 3)) f13.body (defBody (top 3)) = true := by kernel_rfl
theorem k14 : chkB (L.tx K fdat) N14 (defScope (top 27)) f14.body (defBody (top 27)) = true := by kernel_rfl
theorem k15 : chkB (L.tx K fdat) N15 (defScope (top 15)) f15.body (defBody (top 15)) = true := by kernel_rfl
theorem k16 : chkB (L.tx K fdat) N16 (defScope (top 17)) f16.body (defBody (top 17)) = true := by kernel_rfl
theorem k17 : chkB (L.tx K fdat) N17 (defScope (top 14)) f17.body (defBody (top 14)) = true := by kernel_rfl
theorem k18 : chkB (L.tx K fdat) N18 (defScope (top 18)) f18.body (defBody (top 18)) = true := by kernel_rfl
theorem k19 : chkB (L.tx K fdat) N19 (defScope (top 22)) f19.body (defBody (top 22)) = true := by kernel_rfl
theorem k20 : chkB (L.tx K fdat) N20 (defScope (top 34)) f20.body (defBody (top 34)) = true := by kernel_rfl
theorem k21 : chkB (L.tx K fdat) N21 (defScope (top 2)) f21.body (defBody (top 2)) = true := by kernel_rfl
theorem k22 : chkB (L.tx K fdat) N22 (defScope (top 25)) f22.body (defBody (top 25)) = true := by kernel_rfl
theorem k23 : chkB (L.tx K fdat) N23 (defScope (top 16)) f23.body (defBody (top 16)) = true := by kernel_rfl
theorem k24 : chkB (L.tx K fdat) N24 (defScope (top 33)) f24.body (defBody (top 33)) = true := by kernel_rfl
end
theorem dis : ∀ i, W.fn.lookup i = none ∨ W.sup.lookup i = none := fun i => by
  match i with
  | 0 => exact .inr rfl
  | 1 => exact .inr rfl
  | 2 => exact .inr rfl
  | 3 => exact .inr rfl
  | 4 => exact .inr rfl
  | 5 => exact .inr rfl
  | 6 => exact .inr rfl
  | 7 => exact .inr rfl
  | 8 => exact .inr rfl
  | 9 => exact .inr rfl
  | 10 => exact .inr rfl
  | 11 => exact .inr rfl
  | 12 => exact .inr rfl
  | 13 => exact .inr rfl
  | 14 => exact .inr rfl
  | 15 => exact .inr rfl
  | 16 => exact .inr rfl
  | 17 => exact .inr rfl
  | 18 => exact .inr rfl
  | 19 => exact .inr rfl
  | 20 => exact .inr rfl
  | 21 => exact .inr rfl
  | 22 => exact .inr rfl
  | 23 => exact .inr rfl
  | 24 => exact .inr rfl
  | n + 25 => exact .inl rfl
theorem txt {w : World} {K : PySem.W.Frag} {h : Heap} {mg : Str → Option Value} (X : K.In h) (G : h.Ns mainGlobals mg) (c : W.obsK K = W.valK w) :
    ∃ fdat : Nat → FuncData, (∀ (s : Shared) (v : Value), BindsTo s (fdat 0) ⟨[v], []⟩ [("_law_script", v)]) ∧ ∀ base : Heap, Txt T (L.tx K fdat) F Pw w K mg base := by
  obtain ⟨o2, o4, ct, dat, hd⟩ := LawD.dat (W := W) c dis
  have D0 := (hd 0).1 _ rfl
  have D1 := (hd 1).1 _ rfl
  have D2 := (hd 2).1 _ rfl
  have D3 := (hd 3).1 _ rfl
  have D4 := (hd 4).1 _ rfl
  have D5 := (hd 5).1 _ rfl
  have D6 := (hd 6).1 _ rfl
  have D7 := (hd 7).1 _ rfl
  have D8 := (hd 8).1 _ rfl
  have D9 := (hd 9).1 _ rfl
  have D10 := (hd 10).1 _ rfl
  have D11 := (hd 11).1 _ rfl
  have D12 := (hd 12).1 _ rfl
  have D13 := (hd 13).1 _ rfl
  have D14 := (hd 14).1 _ rfl
  have D15 := (hd 15).1 _ rfl
  have D16 := (hd 16).1 _ rfl
  have D17 := (hd 17).1 _ rfl
  have D18 := (hd 18).1 _ rfl
  have D19 := (hd 19).1 _ rfl
  have D20 := (hd 20).1 _ rfl
  have D21 := (hd 21).1 _ rfl
  have D22 := (hd 22).1 _ rfl
  have D23 := (hd 23).1 _ rfl
  have D24 := (hd 24).1 _ rfl
  have B0 : Binds K (dat 0) ["_law_script"] [] := FunD.bindsN D0 fun _ _ _ _ _ _ us hl => match us, hl with | [_], _ => rfl
  have B1 : Binds K (dat 1) ["_law_script", "_law_count"] [] := FunD.bindsN D1 fun _ _ _ _ _ _ us hl => match us, hl with | [_, _], _ => rfl
  have B2 : Binds K (dat 2) ["_law_width"] [] := FunD.bindsN D2 fun _ _ _ _ _ _ us hl => match us, hl with | [_], _ => rfl
  have B3 : Binds K (dat 3) ["_law_draws_here", "_law_at", "_law_size_here", "_law_letters_here", "_law_kinds"] [] := FunD.bindsN D3 fun _ _ _ _ _ _ us hl => match us, hl with | [_, _, _, _, _], _ => rfl
  have B4 : Binds K (dat 4) [] [] := FunD.bindsN D4 fun _ _ _ _ _ _ us hl => match us, hl with | [], _ => rfl
  have B5 : Binds K (dat 5) ["_law_draw", "_law_size_here", "_law_letters_here", "_law_kinds"] [] := FunD.bindsN D5 fun _ _ _ _ _ _ us hl => match us, hl with | [_, _, _, _], _ => rfl
  have B6 : Binds K (dat 6) ["_law_width", "_law_code_here", "_law_inputs", "_law_outputs"] [] := FunD.bindsN D6 fun _ _ _ _ _ _ us hl => match us, hl with | [_, _, _, _], _ => rfl
  obtain ⟨d7_0, v7_0, b7_0⟩ := FunD.binds1 (ps := ["self", "width", "code", "inputs", "outputs"]) D7 3 0 (List.cons_ne_nil _ _) rfl fun T kV doc pm an cdv ct us its hl hi => match us, hl, its, hi with | [_, _, _], _, [_, _], _ => ⟨_, rfl, rfl⟩
  obtain ⟨d7_1, v7_1, b7_1⟩ := FunD.binds1 (ps := ["self", "width", "code", "inputs", "outputs"]) D7 4 1 (List.cons_ne_nil _ _) rfl fun T kV doc pm an cdv ct us its hl hi => match us, hl, its, hi with | [_, _, _, _], _, [_, _], _ => ⟨_, rfl, rfl⟩
  obtain ⟨d7_2, v7_2, b7_2⟩ := FunD.binds1 (ps := ["self", "width", "code", "inputs", "outputs"]) D7 5 2 (List.cons_ne_nil _ _) rfl fun T kV doc pm an cdv ct us its hl hi => match us, hl, its, hi with | [_, _, _, _, _], _, [_, _], _ => ⟨_, rfl, rfl⟩
  have B7 : Binds K (dat 7) ["self", "width", "code", "inputs", "outputs"] [] := by
    have z : d7_2 = [] := by
      generalize d7_2 = z at v7_2
      cases v7_2
      rfl
    rw [← z]; exact b7_2
  have B8 : Binds K (dat 8) ["_law_width"] [] := FunD.bindsN D8 fun _ _ _ _ _ _ us hl => match us, hl with | [_], _ => rfl
  have B9 : Binds K (dat 9) ["_law_draws_here", "_law_at", "_law_members", "_law_count"] [] := FunD.bindsN D9 fun _ _ _ _ _ _ us hl => match us, hl with | [_, _, _, _], _ => rfl
  have B10 : Binds K (dat 10) ["piece", "start"] [] := FunD.bindsN D10 fun _ _ _ _ _ _ us hl => match us, hl with | [_, _], _ => rfl
  have B11 : Binds K (dat 11) ["_law_piece_here", "_law_start"] [] := FunD.bindsN D11 fun _ _ _ _ _ _ us hl => match us, hl with | [_, _], _ => rfl
  have B12 : Binds K (dat 12) ["_law_piece_here", "_law_state"] [] := FunD.bindsN D12 fun _ _ _ _ _ _ us hl => match us, hl with | [_, _], _ => rfl
  have B13 : Binds K (dat 13) ["piece", "state", "standing"] [] := FunD.bindsN D13 fun _ _ _ _ _ _ us hl => match us, hl with | [_, _, _], _ => rfl
  have B14 : Binds K (dat 14) ["_law_piece_here", "_law_state", "_law_standing"] [] := FunD.bindsN D14 fun _ _ _ _ _ _ us hl => match us, hl with | [_, _, _], _ => rfl
  have B15 : Binds K (dat 15) ["part", "most"] [] := FunD.bindsN D15 fun _ _ _ _ _ _ us hl => match us, hl with | [_, _], _ => rfl
  have B16 : Binds K (dat 16) ["instruction", "size"] [] := FunD.bindsN D16 fun _ _ _ _ _ _ us hl => match us, hl with | [_, _], _ => rfl
  have B17 : Binds K (dat 17) ["part", "letters"] [] := FunD.bindsN D17 fun _ _ _ _ _ _ us hl => match us, hl with | [_, _], _ => rfl
  have B18 : Binds K (dat 18) ["code", "letter"] [] := FunD.bindsN D18 fun _ _ _ _ _ _ us hl => match us, hl with | [_, _], _ => rfl
  have B19 : Binds K (dat 19) ["_law_width"] [] := FunD.bindsN D19 fun _ _ _ _ _ _ us hl => match us, hl with | [_], _ => rfl
  have B20 : Binds K (dat 20) ["_law_width", "_law_standing"] [] := FunD.bindsN D20 fun _ _ _ _ _ _ us hl => match us, hl with | [_, _], _ => rfl
  have B21 : Binds K (dat 21) ["piece", "state", "letter", "standing"] [] := FunD.bindsN D21 fun _ _ _ _ _ _ us hl => match us, hl with | [_, _, _, _], _ => rfl
  have B22 : Binds K (dat 22) ["_law_held_here", "_law_at", "_law_standing"] [] := FunD.bindsN D22 fun _ _ _ _ _ _ us hl => match us, hl with | [_, _, _], _ => rfl
  have B23 : Binds K (dat 23) ["part", "letter", "size"] [] := FunD.bindsN D23 fun _ _ _ _ _ _ us hl => match us, hl with | [_, _, _], _ => rfl
  have B24 : Binds K (dat 24) ["_law_width", "_law_word"] [] := FunD.bindsN D24 fun _ _ _ _ _ _ us hl => match us, hl with | [_, _], _ => rfl
  let fdat : Nat → FuncData := fun i => if i < 25 then dat i else default
  have bnd : ∀ f, Binds K (fdat f) ((L.tx K fdat).fps f) [] := fun f => by
    match f with
    | 0 => exact B0
    | 1 => exact B1
    | 2 => exact B2
    | 3 => exact B3
    | 4 => exact B4
    | 5 => exact B5
    | 6 => exact B6
    | 7 => exact B7
    | 8 => exact B8
    | 9 => exact B9
    | 10 => exact B10
    | 11 => exact B11
    | 12 => exact B12
    | 13 => exact B13
    | 14 => exact B14
    | 15 => exact B15
    | 16 => exact B16
    | 17 => exact B17
    | 18 => exact B18
    | 19 => exact B19
    | 20 => exact B20
    | 21 => exact B21
    | 22 => exact B22
    | 23 => exact B23
    | 24 => exact B24
    | n + 25 =>
      have e : fdat (n + 25) = default := if_neg (by omega)
      rw [e]; exact bind0
  have bndD : ∀ f n, n + (T.dfl f n).length = ((L.tx K fdat).fps f).length → ∃ ds dvs, Binds K (fdat f) ((L.tx K fdat).fps f) ds ∧ Vals dvs ds ∧ ∀ ι M H, Reps ⟨Pw, w, K, L.ca K⟩ ι M H dvs (T.dfl f n) := fun f n hn => by
    exact ⟨[], [], bnd f, .nil, fun _ _ _ => .nil⟩
  have bs := FunD.bindsA (ps := ["_law_script"]) D0 fun _ _ _ _ _ _ us hl => match us, hl with | [_], _ => rfl
  refine ⟨fdat, fun s v => bs s [v] rfl, fun base => ⟨LT.txF X G o2 ct bnd bndD, fun f fd hf => ?_⟩⟩
  skip
  match f, hf with
  | 0, hf => cases hf; exact .inl ⟨_, _, _, _, _, _, _, N0, D0, sc0, rfl, rfl, rfl, rfl, k0⟩
  | 1, hf => cases hf; exact .inl ⟨_, _, _, _, _, _, _, N1, D1, sc1, rfl, rfl, rfl, rfl, k1⟩
  | 2, hf => cases hf; exact .inl ⟨_, _, _, _, _, _, _, N2, D2, sc2, rfl, rfl, rfl, rfl, k2⟩
  | 3, hf => cases hf; exact .inl ⟨_, _, _, _, _, _, _, N3, D3, sc3, rfl, rfl, rfl, rfl, k3⟩
  | 4, hf => cases hf; exact .inl ⟨_, _, _, _, _, _, _, N4, D4, sc4, rfl, rfl, rfl, rfl, k4⟩
  | 5, hf => cases hf; exact .inl ⟨_, _, _, _, _, _, _, N5, D5, sc5, rfl, rfl, rfl, rfl, k5⟩
  | 6, hf => cases hf; exact .inl ⟨_, _, _, _, _, _, _, N6, D6, sc6, rfl, rfl, rfl, rfl, k6⟩
  | 7, hf => cases hf; exact .inl ⟨_, _, _, _, _, _, _, N7, D7, sc7, rfl, rfl, rfl, rfl, k7⟩
  | 8, hf => cases hf; exact .inl ⟨_, _, _, _, _, _, _, N8, D8, sc8, rfl, rfl, rfl, rfl, k8⟩
  | 9, hf => cases hf; exact .inl ⟨_, _, _, _, _, _, _, N9, D9, sc9, rfl, rfl, rfl, rfl, k9⟩
  | 10, hf => cases hf; exact .inl ⟨_, _, _, _, _, _, _, N10, D10, sc10, rfl, rfl, rfl, rfl, k10⟩
  | 11, hf => cases hf; exact .inl ⟨_, _, _, _, _, _, _, N11, D11, sc11, rfl, rfl, rfl, rfl, k11⟩
  | 12, hf => cases hf; exact .inl ⟨_, _, _, _, _, _, _, N12, D12, sc12, rfl, rfl, rfl, rfl, k12⟩
  | 13, hf => cases hf; exact .inl ⟨_, _, _, _, _, _, _, N13, D13, sc13, rfl, rfl, rfl, rfl, k13⟩
  | 14, hf => cases hf; exact .inl ⟨_, _, _, _, _, _, _, N14, D14, sc14, rfl, rfl, rfl, rfl, k14⟩
  | 15, hf => cases hf; exact .inl ⟨_, _, _, _, _, _, _, N15, D15, sc15, rfl, rfl, rfl, rfl, k15⟩
  | 16, hf => cases hf; exact .inl ⟨_, _, _, _, _, _, _, N16, D16, sc16, rfl, rfl, rfl, rfl, k16⟩
  | 17, hf => cases hf; exact .inl ⟨_, _, _, _, _, _, _, N17, D17, sc17, rfl, rfl, rfl, rfl, k17⟩
  | 18, hf => cases hf; exact .inl ⟨_, _, _, _, _, _, _, N18, D18, sc18, rfl, rfl, rfl, rfl, k18⟩
  | 19, hf => cases hf; exact .inl ⟨_, _, _, _, _, _, _, N19, D19, sc19, rfl, rfl, rfl, rfl, k19⟩
  | 20, hf => cases hf; exact .inl ⟨_, _, _, _, _, _, _, N20, D20, sc20, rfl, rfl, rfl, rfl, k20⟩
  | 21, hf => cases hf; exact .inl ⟨_, _, _, _, _, _, _, N21, D21, sc21, rfl, rfl, rfl, rfl, k21⟩
  | 22, hf => cases hf; exact .inl ⟨_, _, _, _, _, _, _, N22, D22, sc22, rfl, rfl, rfl, rfl, k22⟩
  | 23, hf => cases hf; exact .inl ⟨_, _, _, _, _, _, _, N23, D23, sc23, rfl, rfl, rfl, rfl, k23⟩
  | 24, hf => cases hf; exact .inl ⟨_, _, _, _, _, _, _, N24, D24, sc24, rfl, rfl, rfl, rfl, k24⟩
  | n + 25, hf => cases hf
end K10

set_option maxRecDepth 100000
set_option maxHeartbeats 4000000
namespace K10
open PySem PySem.Spec PyProof.Rows L2 MP
def pi : PcI := ⟨17, 15, 23, 16, 18, 7, 1, 4, 5, 3, 0, 2⟩
def si : StI := ⟨19, 8, 9, 12, 20, 24⟩
theorem dfl0 (f n : Nat) : T.dfl f n = [] := rfl
theorem Fdr : F 1 = some fdraws := by kernel_rfl
theorem pf : PcF T F pi := ⟨by kernel_rfl, by kernel_rfl, by kernel_rfl, by kernel_rfl, by kernel_rfl, by kernel_rfl, rfl, rfl, rfl, rfl, rfl, rfl, fun _ => rfl, fun _ => rfl, fun _ => rfl, fun _ => rfl, fun _ => rfl⟩
theorem sf : StF T F si := ⟨by kernel_rfl, by kernel_rfl, by kernel_rfl, by kernel_rfl, by kernel_rfl, by kernel_rfl, fun _ => rfl, fun _ => rfl, fun _ => rfl⟩
theorem fl : ∀ f ∈ [y_width, y_code, y_inputs, y_outputs, y_registers, y_cells], T.fld 0 f = true := by
  intro f hf
  simp only [List.mem_cons, List.mem_nil_iff, or_false] at hf
  rcases hf with rfl | rfl | rfl | rfl | rfl | rfl <;> rfl
theorem R5 : F 5 = some ⟨4, 10, B_law_row, none, false⟩ := by kernel_rfl
theorem R3 : F 3 = some ⟨5, 6, .cons (.retF (.lc [5] (.call 5 (.cons (.idx (.var 0) (.bin .add (.var 1) (.var 5))) (.cons (.var 2) (.cons (.var 3) (.cons (.var 4) .nil))))) (.nm 5) (.rng (.var 2)) .nil)) .nil, none, true⟩ := by kernel_rfl
theorem R2 : F 2 = some ⟨1, 1, B_law_letters, none, false⟩ := by kernel_rfl
theorem R4 : F 4 = some ⟨0, 1, B_law_every_kind, none, false⟩ := by kernel_rfl
theorem R6 : F 6 = some ⟨4, 12, B_law_piece, none, false⟩ := by kernel_rfl
theorem R10 : F 10 = some ⟨2, 6, B_first_state, none, false⟩ := by kernel_rfl
theorem R11 : F 11 = some ⟨2, 6, B_law_first, none, false⟩ := by kernel_rfl
theorem R13 : F 13 = some ⟨3, 3, B_answered 21, none, false⟩ := by kernel_rfl
theorem R14 : F 14 = some ⟨3, 4, B_law_answered 22, none, false⟩ := by kernel_rfl
theorem R21 : F 21 = some ⟨4, 5, B_with_register, none, false⟩ := by kernel_rfl
theorem R22 : F 22 = some ⟨3, 3, B_law_put, none, false⟩ := by kernel_rfl
theorem F0 : F 0 = some f0 := rfl
def sm1 : MP.S := .set 1 (.call 1 (.cons (.var 0) (.cons (.cst (.int (30))) .nil)))
def sm2 : MP.S := .set 2 (.bin .add (.cst (.int (1))) (.bin .mod (.blt .int (.cons (.idx (.var 1) (.cst (.int (0)))) .nil)) (.cst (.int (3)))))
def sm3 : MP.S := .set 3 (.call 2 (.cons (.var 2) .nil))
def sm4 : MP.S := .set 4 (.bin .add (.cst (.int (1))) (.bin .mod (.blt .int (.cons (.idx (.var 1) (.cst (.int (1)))) .nil)) (.cst (.int (6)))))
def sm5 : MP.S := .setN 5 (.call 3 (.cons (.var 1) (.cons (.cst (.int (2))) (.cons (.var 4) (.cons (.var 3) (.cons (.call 4 .nil) .nil))))))
def sm6 : MP.S := .set 6 (.bin .mod (.blt .int (.cons (.idx (.var 1) (.cst (.int (8)))) .nil)) (.var 4))
def sm7 : MP.S := .put 5 (.var 6) (.call 5 (.cons (.idx (.var 1) (.cst (.int (9)))) (.cons (.var 4) (.cons (.var 3) (.cons (.lst (.cons (.cst (.str y_ask)) .nil)) .nil)))))
def sm8 : MP.S := .set 7 (.slc (.lc [19] (.var 19) (.nm 19) (.val (.var 3)) (.cons (.or (.v (.cmp .gt (.bin .mod (.blt .int (.cons (.idx (.var 1) (.cst (.int (10)))) .nil)) (.cst (.int (3)))) (.cst (.int (0))))) (.v (.cmp .gt (.var 19) (.cst (.str y_b))))) .nil)) .no (.so (.cst (.int (3)))))
def sm9 : MP.S := .iff (.v (.cmp .eq (.bin .mod (.blt .int (.cons (.idx (.var 1) (.cst (.int (11)))) .nil)) (.cst (.int (2)))) (.cst (.int (1))))) (.cons (.set 7 (.lc [20] (.idx (.var 7) (.bin .sub (.bin .sub (.blt .len (.cons (.var 7) .nil)) (.cst (.int (1)))) (.var 20))) (.nm 20) (.rng (.blt .len (.cons (.var 7) .nil))) .nil)) .nil) .nil
def sm10 : MP.S := .set 8 (.slc (.lst (.cons (.idx (.var 3) (.bin .mod (.blt .int (.cons (.idx (.var 1) (.cst (.int (12)))) .nil)) (.blt .len (.cons (.var 3) .nil)))) .nil)) (.so (.bin .mod (.blt .int (.cons (.idx (.var 1) (.cst (.int (13)))) .nil)) (.cst (.int (2))))) .no)
def sm11 : MP.S := .frz 5
def sm12 : MP.S := .set 9 (.call 6 (.cons (.var 2) (.cons (.var 5) (.cons (.var 7) (.cons (.var 8) .nil)))))
def sm13 : MP.S := .set 10 (.mk 0 (.cons (.var 2) (.cons (.blt .list (.cons (.var 5) .nil)) (.cons (.blt .list (.cons (.var 7) .nil)) (.cons (.blt .list (.cons (.var 8) .nil)) .nil)))))
def sm14 : MP.S := .set 11 (.bin .add (.call 8 (.cons (.var 2) .nil)) (.lst (.cons (.cst (.str y_any)) (.cons (.cst (.str y_bad)) .nil))))
def sm15 : MP.S := .set 12 (.call 9 (.cons (.var 1) (.cons (.cst (.int (14))) (.cons (.var 11) (.cons (.blt .len (.cons (.var 7) .nil)) .nil)))))
def sm16 : MP.S := .set 13 (.call 10 (.cons (.var 10) (.cons (.var 12) .nil)))
def sm17 : MP.S := .iff (.or (.not (.v (.call 12 (.cons (.var 9) (.cons (.var 13) .nil))))) (.v (.cmp .ne (.var 13) (.call 11 (.cons (.var 9) (.cons (.var 12) .nil)))))) (.cons (.ret (.cst (.bl false))) .nil) .nil
def sm18 : MP.S := .set 14 (.call 9 (.cons (.var 1) (.cons (.cst (.int (17))) (.cons (.var 11) (.cons (.blt .len (.cons (.idx (.var 9) (.cst (.str y_names))) .nil)) .nil)))))
def sm19 : MP.S := .set 15 (.call 9 (.cons (.var 1) (.cons (.cst (.int (22))) (.cons (.bin .add (.var 11) (.lst (.cons (.cst .non) .nil))) (.cons (.blt .len (.cons (.idx (.var 9) (.cst (.str y_cells))) .nil)) .nil)))))
def sm20 : MP.S := .set 16 (.tup (.cons (.var 6) (.cons (.var 14) (.cons (.var 15) .nil))))
def sm21 : MP.S := .forr (.nm 17) (.val (.lst (.cons (.idx (.var 11) (.bin .mod (.blt .int (.cons (.idx (.var 1) (.cst (.int (24)))) .nil)) (.blt .len (.cons (.var 11) .nil)))) (.cons (.cst (.str y_bad)) (.cons (.cst (.str y_any)) (.cons (.cst (.int (0))) .nil)))))) (.cons (.set 18 (.call 13 (.cons (.var 10) (.cons (.var 16) (.cons (.var 17) .nil))))) (.cons (.iff (.or (.not (.v (.call 12 (.cons (.var 9) (.cons (.var 18) .nil))))) (.v (.cmp .ne (.var 18) (.call 14 (.cons (.var 9) (.cons (.var 16) (.cons (.var 17) .nil))))))) (.cons (.ret (.cst (.bl false))) .nil) .nil) (.cons (.wip [17, 18]) .nil)))
def sm22 : MP.S := .wip [17, 18]
def sm23 : MP.S := .ret (.andd (.cmp .eq (.var 16) (.tup (.cons (.var 6) (.cons (.var 14) (.cons (.var 15) .nil))))) (.cmp .eq (.call 10 (.cons (.var 10) (.cons (.var 12) .nil))) (.var 13)))
def b0 : Ss := (.cons sm1 (.cons sm2 (.cons sm3 (.cons sm4 (.cons sm5 (.cons sm6 (.cons sm7 (.cons sm8 (.cons sm9 (.cons sm10 (.cons sm11 (.cons sm12 (.cons sm13 (.cons sm14 (.cons sm15 (.cons sm16 (.cons sm17 (.cons sm18 (.cons sm19 (.cons sm20 (.cons sm21 (.cons sm22 (.cons sm23 .nil)))))))))))))))))))))))
theorem b0_eq : f0.body = b0 := by kernel_rfl
theorem law_ok (ns : List Int) (hn : ns.length ≤ 63) : ∃ h', callN T F 10 0 [.scr (ns.map D.int)] [] = .ok (.bl true) h' := by
  obtain ⟨l, q1, dl, hl⟩ := draws_ok (tb := T) (k := 8) Fdr ns 30 [] hn (by decide)
  let Φ := callN T F 9
  let E (s1 s2 s3 s4 s5 s6 s7 s8 s9 s10 s11 s12 s13 s14 s15 s16 s17 s18 : Slot) : Ev := [.val (.scr (ns.map D.int)), s1, s2, s3, s4, s5, s6, s7, s8, s9, s10, s11, s12, s13, s14, s15, s16, s17, s18, .no, .no]
  let Lv : Slot := .val (.lst l)
  have p1 : MP.exec T Φ sm1 (E .no .no .no .no .no .no .no .no .no .no .no .no .no .no .no .no .no .no) [] = .nx (E Lv .no .no .no .no .no .no .no .no .no .no .no .no .no .no .no .no .no) [] := X_set (E_call (E_cons (E_var rfl) (E_cons E_cst E_nil)) (dfl0 1) q1)
  obtain ⟨x0, hx0, q2⟩ := dm (tb := T) (Φ := Φ) (h := []) dl (j := 1) (e := E Lv .no .no .no .no .no .no .no .no .no .no .no .no .no .no .no .no .no) rfl (E_cst (x := .int ((0 : Nat) : Int))) (by omega) (E_cst (x := .int ((3 : Nat) : Int))) (by decide)
  let w : Nat := 1 + x0
  have w1 : 1 ≤ w := by omega
  have w3 : w ≤ 3 := by omega
  obtain ⟨L0, L1, lsm, L3, L4⟩ := letS_ok w1 w3
  let LS := (letS w).cps.toList
  have p2 : MP.exec T Φ sm2 (E Lv .no .no .no .no .no .no .no .no .no .no .no .no .no .no .no .no .no) [] = .nx (E Lv (.val (.int (w : Int))) .no .no .no .no .no .no .no .no .no .no .no .no .no .no .no .no) [] := X_set (E_bin (Ov E_cst rfl) (Ov q2 rfl) rfl)
  have p3 : MP.exec T Φ sm3 (E Lv (.val (.int (w : Int))) .no .no .no .no .no .no .no .no .no .no .no .no .no .no .no .no) [] = .nx (E Lv (.val (.int (w : Int))) (.val (.str (letS w))) .no .no .no .no .no .no .no .no .no .no .no .no .no .no .no) [] := X_set (E_call (E_cons (E_var rfl) E_nil) (dfl0 2) (lletters_ok R2 8 [] w1 w3))
  obtain ⟨x1, hx1, q4⟩ := dm (tb := T) (Φ := Φ) (h := []) dl (j := 1) (e := E Lv (.val (.int (w : Int))) (.val (.str (letS w))) .no .no .no .no .no .no .no .no .no .no .no .no .no .no .no) rfl (E_cst (x := .int ((1 : Nat) : Int))) (by omega) (E_cst (x := .int ((6 : Nat) : Int))) (by decide)
  let n : Nat := 1 + x1
  have n1 : 1 ≤ n := by omega
  have n6 : n ≤ 6 := by omega
  have p4 : MP.exec T Φ sm4 (E Lv (.val (.int (w : Int))) (.val (.str (letS w))) .no .no .no .no .no .no .no .no .no .no .no .no .no .no .no) [] = .nx (E Lv (.val (.int (w : Int))) (.val (.str (letS w))) (.val (.int (n : Int))) .no .no .no .no .no .no .no .no .no .no .no .no .no .no) [] := X_set (E_bin (Ov E_cst rfl) (Ov q4 rfl) rfl)
  have k12 : ∀ b ∈ List.range 12, b < 12 := fun b hb => List.mem_range.mp hb
  obtain ⟨c0, hc0, hr0, q5⟩ := lcodeF_ok (tb := T) R3 R5 (dfl0 5) 7 [] dl (a := 2) (n := n) (by omega) (by omega) L0 L1 (ks := List.range 12) (by decide) k12
  have p5 : MP.exec T Φ sm5 (E Lv (.val (.int (w : Int))) (.val (.str (letS w))) (.val (.int (n : Int))) .no .no .no .no .no .no .no .no .no .no .no .no .no .no) [] = .nx (E Lv (.val (.int (w : Int))) (.val (.str (letS w))) (.val (.int (n : Int))) (.own (.lst (c0.map Ins.d))) .no .no .no .no .no .no .no .no .no .no .no .no .no) [] := X_setN (E_call (E_cons (E_var rfl) (E_cons E_cst (E_cons (E_var rfl) (E_cons (E_var rfl) (E_cons (E_call E_nil (dfl0 4) (lkinds_ok R4 8 [])) E_nil))))) (dfl0 3) q5) rfl
  obtain ⟨q, hq, q6⟩ := dm (tb := T) (Φ := Φ) (h := []) dl (j := 1) (e := E Lv (.val (.int (w : Int))) (.val (.str (letS w))) (.val (.int (n : Int))) (.own (.lst (c0.map Ins.d))) .no .no .no .no .no .no .no .no .no .no .no .no .no) rfl (E_cst (x := .int ((8 : Nat) : Int))) (by omega) (E_var (i := 4) (x := .int (n : Int)) rfl) n1
  have p6 : MP.exec T Φ sm6 (E Lv (.val (.int (w : Int))) (.val (.str (letS w))) (.val (.int (n : Int))) (.own (.lst (c0.map Ins.d))) .no .no .no .no .no .no .no .no .no .no .no .no .no) [] = .nx (E Lv (.val (.int (w : Int))) (.val (.str (letS w))) (.val (.int (n : Int))) (.own (.lst (c0.map Ins.d))) (.val (.int (q : Int))) .no .no .no .no .no .no .no .no .no .no .no .no) [] := X_set q6
  obtain ⟨x9, q7⟩ := dw (tb := T) (Φ := Φ) (h := []) dl (j := 1) (e := E Lv (.val (.int (w : Int))) (.val (.str (letS w))) (.val (.int (n : Int))) (.own (.lst (c0.map Ins.d))) (.val (.int (q : Int))) .no .no .no .no .no .no .no .no .no .no .no .no) rfl (E_cst (x := .int ((9 : Nat) : Int))) (by omega)
  obtain ⟨iq, hiq, q7'⟩ := lrow_ok (tb := T) R5 8 [] (x9 : Int) n L0 L1 (ks := [11]) (by decide) (by decide)
  let c : List Ins := c0.set q iq
  have hset : setD (.lst (c0.map Ins.d)) (.int (q : Int)) iq.d = some (.lst (c.map Ins.d)) := by
    show (L2.ixN (c0.map Ins.d).length (q : Int)).map (fun j => D.lst ((c0.map Ins.d).set j iq.d)) = _
    have : L2.ixN (c0.map Ins.d).length (q : Int) = some q := by
      unfold L2.ixN
      rw [if_pos (by omega), if_pos (by rw [List.length_map]; omega), Int.toNat_natCast]
    rw [this, List.map_set]; rfl
  have p7 : MP.exec T Φ sm7 (E Lv (.val (.int (w : Int))) (.val (.str (letS w))) (.val (.int (n : Int))) (.own (.lst (c0.map Ins.d))) (.val (.int (q : Int))) .no .no .no .no .no .no .no .no .no .no .no .no) [] = .nx (E Lv (.val (.int (w : Int))) (.val (.str (letS w))) (.val (.int (n : Int))) (.own (.lst (c.map Ins.d))) (.val (.int (q : Int))) .no .no .no .no .no .no .no .no .no .no .no .no) [] := X_put (E_call (E_cons q7 (E_cons (E_var rfl) (E_cons (E_var rfl) (E_cons (E_lst (E_cons E_cst E_nil) rfl) E_nil)))) (dfl0 5) q7') (E_var rfl) rfl hset
  have hlc : c.length = n := by show (c0.set q iq).length = n; rw [List.length_set]; exact hc0
  have hcq : c[q]'(by omega) = iq := List.getElem_set_self (by rw [List.length_set]; omega)
  have hok : ∀ i ∈ c, i.ok n ∧ (∀ b ∈ i.sel 114, b ∈ LS) ∧ (∀ b ∈ i.sel 109, b = 77) := fun i hi => by
    rcases List.mem_or_eq_of_mem_set hi with m | rfl
    · exact (hr0 i m).ok lsm k12
    · exact hiq.ok lsm (by decide)
  have hS : (letS w).length ≤ 6 := by
    have e : (letS w).length = (letS w).cps.toList.length := rfl
    have : plcs w ≤ 6 := by
      have : ∀ w ≤ 3, plcs w ≤ 6 := by decide
      exact this _ w3
    omega
  obtain ⟨PP, g8⟩ := E_some (tb := T) (Φ := Φ) (e := E Lv (.val (.int (w : Int))) (.val (.str (letS w))) (.val (.int (n : Int))) (.own (.lst (c.map Ins.d))) (.val (.int (q : Int))) .no .no .no .no .no .no .no .no .no .no .no .no) (h := []) (ls := letS w) (j := 3) (i := 19) (t := .or (.v (.cmp .gt (.bin .mod (.blt .int (.cons (.idx (.var 1) (.cst (.int (10)))) .nil)) (.cst (.int (3)))) (.cst (.int (0))))) (.v (.cmp .gt (.var 19) (.cst (.str y_b))))) L1 rfl (by decide) (by show 19 < 21; decide) rfl fun b hb => by
    obtain ⟨x, _, qx⟩ := dm (tb := T) (Φ := Φ) (h := []) dl (j := 1) (e := (E Lv (.val (.int (w : Int))) (.val (.str (letS w))) (.val (.int (n : Int))) (.own (.lst (c.map Ins.d))) (.val (.int (q : Int))) .no .no .no .no .no .no .no .no .no .no .no .no).set 19 (.val (sg b))) rfl (E_cst (x := .int ((10 : Nat) : Int))) (by omega) (E_cst (x := .int ((3 : Nat) : Int))) (by decide)
    have t1 := tmg qx 0
    cases z : decide (((0 : Nat) : Int) < (x : Int)) with
    | true => rw [z] at t1; exact ⟨true, T_or1 t1⟩
    | false =>
      rw [z] at t1
      exact ⟨_, T_or0 t1 (T_v (E_cmp (x := sg b) (y := .str y_b) (Ov (E_var rfl) rfl) (Ov E_cst rfl) (cD_gts _ _)))⟩
  let l1 : List Nat := (LS.filter PP).take 3
  have l1s : ∀ b ∈ l1, b ∈ LS := fun b hb => (List.mem_filter.mp (List.mem_of_mem_take hb)).1
  have l1n : l1.Nodup := (L3.sublist List.filter_sublist).sublist (List.take_sublist _ _)
  have l13 : l1.length ≤ 3 := by show ((LS.filter PP).take 3).length ≤ 3; rw [List.length_take]; omega
  have p8 : MP.exec T Φ sm8 (E Lv (.val (.int (w : Int))) (.val (.str (letS w))) (.val (.int (n : Int))) (.own (.lst (c.map Ins.d))) (.val (.int (q : Int))) .no .no .no .no .no .no .no .no .no .no .no .no) [] = .nx (E Lv (.val (.int (w : Int))) (.val (.str (letS w))) (.val (.int (n : Int))) (.own (.lst (c.map Ins.d))) (.val (.int (q : Int))) (.val (.lst (l1.map sg))) .no .no .no .no .no .no .no .no .no .no .no) [] := X_set (E_slc (Ov g8 rfl) E_no (E_so (E_cst (x := .int ((3 : Nat) : Int)))) (by
    show some (D.lst (cutL _ none (some ((3 : Nat) : Int)))) = _
    rw [cut0, ← List.map_take]))
  obtain ⟨is, isn, iss, is3, p9⟩ : ∃ is : List Nat, is.Nodup ∧ (∀ b ∈ is, b ∈ LS) ∧ is.length ≤ 3 ∧ MP.exec T Φ sm9 (E Lv (.val (.int (w : Int))) (.val (.str (letS w))) (.val (.int (n : Int))) (.own (.lst (c.map Ins.d))) (.val (.int (q : Int))) (.val (.lst (l1.map sg))) .no .no .no .no .no .no .no .no .no .no .no) [] = .nx (E Lv (.val (.int (w : Int))) (.val (.str (letS w))) (.val (.int (n : Int))) (.own (.lst (c.map Ins.d))) (.val (.int (q : Int))) (.val (.lst (is.map sg))) .no .no .no .no .no .no .no .no .no .no .no) [] := by
    obtain ⟨x, _, qx⟩ := dm (tb := T) (Φ := Φ) (h := []) dl (j := 1) (e := E Lv (.val (.int (w : Int))) (.val (.str (letS w))) (.val (.int (n : Int))) (.own (.lst (c.map Ins.d))) (.val (.int (q : Int))) (.val (.lst (l1.map sg))) .no .no .no .no .no .no .no .no .no .no .no) rfl (E_cst (x := .int ((11 : Nat) : Int))) (by omega) (E_cst (x := .int ((2 : Nat) : Int))) (by decide)
    have t1 := tm qx 1
    cases z : decide ((x : Int) = ((1 : Nat) : Int)) with
    | true =>
      rw [z] at t1
      exact ⟨l1.reverse, List.pairwise_reverse.mpr (l1n.imp fun z => z.symm), fun b hb => l1s b (List.mem_reverse.mp hb), by rw [List.length_reverse]; exact l13, (X_if t1).trans (execs_one (X_set (E_turn (l := l1) (by omega) rfl (by decide) (by show 20 < 21; decide) rfl)))⟩
    | false =>
      rw [z] at t1
      exact ⟨l1, l1n, l1s, l13, X_skip t1⟩
  obtain ⟨os, osn, oss, os2, p10⟩ : ∃ os : List Nat, os.Nodup ∧ (∀ b ∈ os, b ∈ LS) ∧ os.length ≤ 2 ∧ MP.exec T Φ sm10 (E Lv (.val (.int (w : Int))) (.val (.str (letS w))) (.val (.int (n : Int))) (.own (.lst (c.map Ins.d))) (.val (.int (q : Int))) (.val (.lst (is.map sg))) .no .no .no .no .no .no .no .no .no .no .no) [] = .nx (E Lv (.val (.int (w : Int))) (.val (.str (letS w))) (.val (.int (n : Int))) (.own (.lst (c.map Ins.d))) (.val (.int (q : Int))) (.val (.lst (is.map sg))) (.val (.lst (os.map sg))) .no .no .no .no .no .no .no .no .no .no) [] := by
    obtain ⟨x, hx, qx⟩ := dm (tb := T) (Φ := Φ) (h := []) dl (j := 1) (e := E Lv (.val (.int (w : Int))) (.val (.str (letS w))) (.val (.int (n : Int))) (.own (.lst (c.map Ins.d))) (.val (.int (q : Int))) (.val (.lst (is.map sg))) .no .no .no .no .no .no .no .no .no .no .no) rfl (E_cst (x := .int ((12 : Nat) : Int))) (by omega) (E_blt (a := .var 3) (Ov (E_var rfl) rfl) (strLen (x := letS w) L1)) L0
    obtain ⟨y, hy, qy⟩ := dm (tb := T) (Φ := Φ) (h := []) dl (j := 1) (e := E Lv (.val (.int (w : Int))) (.val (.str (letS w))) (.val (.int (n : Int))) (.own (.lst (c.map Ins.d))) (.val (.int (q : Int))) (.val (.lst (is.map sg))) .no .no .no .no .no .no .no .no .no .no .no) rfl (E_cst (x := .int ((13 : Nat) : Int))) (by omega) (E_cst (x := .int ((2 : Nat) : Int))) (by decide)
    refine ⟨[LS[x]'hx].drop y, (List.pairwise_singleton _ _).sublist (List.drop_sublist _ _), fun b hb => by
      have := List.mem_of_mem_drop hb
      rw [List.mem_singleton.mp this]
      exact List.getElem_mem _, by rw [List.length_drop]; show 1 - y ≤ 2; omega, X_set (E_slc (x := .lst [sg (LS[x]'hx)]) (Ov (E_lst (E_cons (E_idx (Ov (E_var rfl) rfl) qx (sgS_idx hx L1)) E_nil) rfl) rfl) (E_so qy) E_no (by
        show some (D.lst (cutL _ (some (y : Int)) none)) = _
        rw [MP.cutD, ← List.map_singleton (f := sg), ← List.map_drop]))⟩
  have p11 : MP.exec T Φ sm11 (E Lv (.val (.int (w : Int))) (.val (.str (letS w))) (.val (.int (n : Int))) (.own (.lst (c.map Ins.d))) (.val (.int (q : Int))) (.val (.lst (is.map sg))) (.val (.lst (os.map sg))) .no .no .no .no .no .no .no .no .no .no) [] = .nx (E Lv (.val (.int (w : Int))) (.val (.str (letS w))) (.val (.int (n : Int))) (.val (.lst (c.map Ins.d))) (.val (.int (q : Int))) (.val (.lst (is.map sg))) (.val (.lst (os.map sg))) .no .no .no .no .no .no .no .no .no .no) [] := rfl
  have O : PieceOk w c is os := ⟨w1, w3, by omega, fun i hi => by rw [hlc]; exact (hok i hi).1, isn, fun b hb => lsm b (iss b hb), is3, osn, fun b hb => lsm b (oss b hb), os2, Nat.le_trans (room_ok (fun i hi => (hok i hi).2.1) (fun i hi => (hok i hi).2.2) iss oss) L4⟩
  have p12 : MP.exec T Φ sm12 (E Lv (.val (.int (w : Int))) (.val (.str (letS w))) (.val (.int (n : Int))) (.val (.lst (c.map Ins.d))) (.val (.int (q : Int))) (.val (.lst (is.map sg))) (.val (.lst (os.map sg))) .no .no .no .no .no .no .no .no .no .no) [] = .nx (E Lv (.val (.int (w : Int))) (.val (.str (letS w))) (.val (.int (n : Int))) (.val (.lst (c.map Ins.d))) (.val (.int (q : Int))) (.val (.lst (is.map sg))) (.val (.lst (os.map sg))) (.val (lpD w c is os)) .no .no .no .no .no .no .no .no .no) [] := X_set (E_call (E_cons (E_var rfl) (E_cons (E_var rfl) (E_cons (E_var rfl) (E_cons (E_var rfl) E_nil)))) (dfl0 6) (lpiece_ok (tb := T) (F := F) R6 8 [] (w := w) (n := n) (c := c) (is := is) (os := os) (fun i hi => (hok i hi).1) (by omega) (by omega) (by omega) (by omega) O.isS O.osS))
  have p13 : MP.exec T Φ sm13 (E Lv (.val (.int (w : Int))) (.val (.str (letS w))) (.val (.int (n : Int))) (.val (.lst (c.map Ins.d))) (.val (.int (q : Int))) (.val (.lst (is.map sg))) (.val (.lst (os.map sg))) (.val (lpD w c is os)) .no .no .no .no .no .no .no .no .no) [] = .nx (E Lv (.val (.int (w : Int))) (.val (.str (letS w))) (.val (.int (n : Int))) (.val (.lst (c.map Ins.d))) (.val (.int (q : Int))) (.val (.lst (is.map sg))) (.val (.lst (os.map sg))) (.val (lpD w c is os)) (.val (pieceD 0 w c is os)) .no .no .no .no .no .no .no .no) [] := X_set (mk_piece pf 5 O (E_cons (E_var rfl) (E_cons (E_blt (Ov (E_var rfl) rfl) rfl) (E_cons (E_blt (Ov (E_var rfl) rfl) rfl) (E_cons (E_blt (Ov (E_var rfl) rfl) rfl) E_nil)))) rfl rfl rfl rfl rfl rfl rfl rfl rfl fl)
  let WS : List D := (List.range (2 ^ w)).map fun (j : Nat) => D.int (j : Int)
  let MS : List D := WS ++ [.str y_any, .str y_bad]
  have h8 : 2 ^ w ≤ 8 := by rcases (show w = 1 ∨ w = 2 ∨ w = 3 by omega) with e | e | e <;> rw [e] <;> decide
  have hWS : WS.length = 2 ^ w := by show ((List.range (2 ^ w)).map _).length = _; rw [List.length_map, List.length_range]
  have hMS0 : 0 < MS.length := by show 0 < (WS ++ [D.str y_any, D.str y_bad]).length; rw [List.length_append]; show 0 < _ + 2; omega
  have hMS : ∀ d ∈ MS, St w d := fun d hd => by
    rcases List.mem_append.mp hd with m | m
    · obtain ⟨j, hj, rfl⟩ := List.mem_map.mp m
      exact .inl ⟨j, List.mem_range.mp hj, rfl⟩
    · simp only [List.mem_cons, List.mem_nil_iff, or_false] at m
      exact .inr m
  have p14 : MP.exec T Φ sm14 (E Lv (.val (.int (w : Int))) (.val (.str (letS w))) (.val (.int (n : Int))) (.val (.lst (c.map Ins.d))) (.val (.int (q : Int))) (.val (.lst (is.map sg))) (.val (.lst (os.map sg))) (.val (lpD w c is os)) (.val (pieceD 0 w c is os)) .no .no .no .no .no .no .no .no) [] = .nx (E Lv (.val (.int (w : Int))) (.val (.str (letS w))) (.val (.int (n : Int))) (.val (.lst (c.map Ins.d))) (.val (.int (q : Int))) (.val (.lst (is.map sg))) (.val (.lst (os.map sg))) (.val (lpD w c is os)) (.val (pieceD 0 w c is os)) (.val (.lst MS)) .no .no .no .no .no .no .no) [] := X_set (E_bin (x := .lst WS) (y := .lst [.str y_any, .str y_bad]) (Ov (E_call (E_cons (E_var rfl) E_nil) (dfl0 8) (lwords_ok sf 7 [] w3)) rfl) (Ov (E_lst (E_cons E_cst (E_cons E_cst E_nil)) rfl) rfl) (lst_add (by rw [hWS]; show _ + 2 ≤ 10000000; omega)))
  have lni : bltD .len [.lst (is.map sg)] = some (.int (is.length : Int)) := by show some (D.int ((is.map sg).length : Int)) = _; rw [List.length_map]
  obtain ⟨S, hS1, hS2, q15⟩ := held_ok (tb := T) sf 8 [] dl (a := 14) (n := is.length) (by omega) (by omega) hMS0
  have p15 : MP.exec T Φ sm15 (E Lv (.val (.int (w : Int))) (.val (.str (letS w))) (.val (.int (n : Int))) (.val (.lst (c.map Ins.d))) (.val (.int (q : Int))) (.val (.lst (is.map sg))) (.val (.lst (os.map sg))) (.val (lpD w c is os)) (.val (pieceD 0 w c is os)) (.val (.lst MS)) .no .no .no .no .no .no .no) [] = .nx (E Lv (.val (.int (w : Int))) (.val (.str (letS w))) (.val (.int (n : Int))) (.val (.lst (c.map Ins.d))) (.val (.int (q : Int))) (.val (.lst (is.map sg))) (.val (.lst (os.map sg))) (.val (lpD w c is os)) (.val (pieceD 0 w c is os)) (.val (.lst MS)) (.val (.tup S)) .no .no .no .no .no .no) [] := X_set (E_call (E_cons (E_var rfl) (E_cons E_cst (E_cons (E_var rfl) (E_cons (E_blt (Ov (E_var rfl) rfl) lni) E_nil)))) (dfl0 9) q15)
  let R1 : List D := (rgs c is os).map (gv is S)
  let C1 : List D := (cls c).map fun _ => .non
  have f1 := fst_ok (tb := T) R10 8 [] (cl := 0) (w := w) (c := c) (is := is) (os := os) (S := S) hS1 isn (by omega) fl
  have f2 := lfst_ok (tb := T) R11 8 [] (w := w) (c := c) (is := is) (os := os) (S := S) hS1 (fun a ha => smallC_lt (O.isS a ha))
  have p16 : MP.exec T Φ sm16 (E Lv (.val (.int (w : Int))) (.val (.str (letS w))) (.val (.int (n : Int))) (.val (.lst (c.map Ins.d))) (.val (.int (q : Int))) (.val (.lst (is.map sg))) (.val (.lst (os.map sg))) (.val (lpD w c is os)) (.val (pieceD 0 w c is os)) (.val (.lst MS)) (.val (.tup S)) .no .no .no .no .no .no) [] = .nx (E Lv (.val (.int (w : Int))) (.val (.str (letS w))) (.val (.int (n : Int))) (.val (.lst (c.map Ins.d))) (.val (.int (q : Int))) (.val (.lst (is.map sg))) (.val (.lst (os.map sg))) (.val (lpD w c is os)) (.val (pieceD 0 w c is os)) (.val (.lst MS)) (.val (.tup S)) (.val (stD 0 R1 C1)) .no .no .no .no .no) [] := X_set (E_call (E_cons (E_var rfl) (E_cons (E_var rfl) E_nil)) (dfl0 10) f1)
  have O1 : StateOk w c is os 0 R1 C1 := ⟨by omega, by show ((rgs c is os).map (gv is S)).length = _; rw [List.length_map], fun d hd => by
      obtain ⟨x, _, rfl⟩ := List.mem_map.mp hd
      rcases gv_mem (is := is) (S := S) (x := x) with m | m
      · exact hMS _ (hS2 _ m)
      · rw [m]; exact .inl ⟨0, by rcases (show w = 1 ∨ w = 2 ∨ w = 3 by omega) with e | e | e <;> rw [e] <;> decide, rfl⟩, by show ((cls c).map _).length = _; rw [List.length_map], fun d hd => by
      obtain ⟨x, _, rfl⟩ := List.mem_map.mp hd
      exact .inl rfl⟩
  obtain ⟨cm1, cm2⟩ := st_cmp (p := 0) O1.R O1.C
  have p17 : MP.exec T Φ sm17 (E Lv (.val (.int (w : Int))) (.val (.str (letS w))) (.val (.int (n : Int))) (.val (.lst (c.map Ins.d))) (.val (.int (q : Int))) (.val (.lst (is.map sg))) (.val (.lst (os.map sg))) (.val (lpD w c is os)) (.val (pieceD 0 w c is os)) (.val (.lst MS)) (.val (.tup S)) (.val (stD 0 R1 C1)) .no .no .no .no .no) [] = .nx (E Lv (.val (.int (w : Int))) (.val (.str (letS w))) (.val (.int (n : Int))) (.val (.lst (c.map Ins.d))) (.val (.int (q : Int))) (.val (.lst (is.map sg))) (.val (.lst (os.map sg))) (.val (lpD w c is os)) (.val (pieceD 0 w c is os)) (.val (.lst MS)) (.val (.tup S)) (.val (stD 0 R1 C1)) .no .no .no .no .no) [] := X_skip (T_or0 (T_not (t := .v _) (r := true) (T_v (E_call (E_cons (E_var rfl) (E_cons (E_var rfl) E_nil)) (dfl0 12) (isstate_ok sf 5 [] w3 O1)))) (T_v (E_cmp (Ov (E_var rfl) view_st) (Ov (E_call (E_cons (E_var rfl) (E_cons (E_var rfl) E_nil)) (dfl0 11) f2) view_st) cm1)))
  have room := O.room
  have pl6 : plcs w ≤ 6 := by
    have : ∀ w ≤ 3, plcs w ≤ 6 := by decide
    exact this _ w3
  have lnl : ∀ l : List Nat, bltD .len [.lst (l.map sg)] = some (.int (l.length : Int)) := fun l => by show some (D.int ((l.map sg).length : Int)) = _; rw [List.length_map]
  obtain ⟨R2', hR2, hR2m, q18⟩ := held_ok (tb := T) sf 8 [] dl (a := 17) (n := (rgs c is os).length) (by omega) (by omega) hMS0
  have p18 : MP.exec T Φ sm18 (E Lv (.val (.int (w : Int))) (.val (.str (letS w))) (.val (.int (n : Int))) (.val (.lst (c.map Ins.d))) (.val (.int (q : Int))) (.val (.lst (is.map sg))) (.val (.lst (os.map sg))) (.val (lpD w c is os)) (.val (pieceD 0 w c is os)) (.val (.lst MS)) (.val (.tup S)) (.val (stD 0 R1 C1)) .no .no .no .no .no) [] = .nx (E Lv (.val (.int (w : Int))) (.val (.str (letS w))) (.val (.int (n : Int))) (.val (.lst (c.map Ins.d))) (.val (.int (q : Int))) (.val (.lst (is.map sg))) (.val (.lst (os.map sg))) (.val (lpD w c is os)) (.val (pieceD 0 w c is os)) (.val (.lst MS)) (.val (.tup S)) (.val (stD 0 R1 C1)) (.val (.tup R2')) .no .no .no .no) [] := X_set (E_call (E_cons (E_var rfl) (E_cons E_cst (E_cons (E_var rfl) (E_cons (E_blt (Ov (E_idx (z := .lst ((rgs c is os).map sg)) (x := lpD w c is os) (Ov (E_var rfl) rfl) E_cst (by kernel_rfl)) rfl) (lnl _)) E_nil)))) (dfl0 9) q18)
  obtain ⟨C2, hC2, hC2m, q19⟩ := held_ok (tb := T) sf 8 [] dl (a := 22) (n := (cls c).length) (by omega) (by omega) (ms := MS ++ [.non]) (by rw [List.length_append]; omega)
  have hMl : MS.length ≤ 10 := by show (WS ++ [D.str y_any, D.str y_bad]).length ≤ 10; rw [List.length_append]; show _ + 2 ≤ 10; omega
  have p19 : MP.exec T Φ sm19 (E Lv (.val (.int (w : Int))) (.val (.str (letS w))) (.val (.int (n : Int))) (.val (.lst (c.map Ins.d))) (.val (.int (q : Int))) (.val (.lst (is.map sg))) (.val (.lst (os.map sg))) (.val (lpD w c is os)) (.val (pieceD 0 w c is os)) (.val (.lst MS)) (.val (.tup S)) (.val (stD 0 R1 C1)) (.val (.tup R2')) .no .no .no .no) [] = .nx (E Lv (.val (.int (w : Int))) (.val (.str (letS w))) (.val (.int (n : Int))) (.val (.lst (c.map Ins.d))) (.val (.int (q : Int))) (.val (.lst (is.map sg))) (.val (.lst (os.map sg))) (.val (lpD w c is os)) (.val (pieceD 0 w c is os)) (.val (.lst MS)) (.val (.tup S)) (.val (stD 0 R1 C1)) (.val (.tup R2')) (.val (.tup C2)) .no .no .no) [] := X_set (E_call (E_cons (E_var rfl) (E_cons E_cst (E_cons (E_bin (x := .lst MS) (y := .lst [.non]) (Ov (E_var rfl) rfl) (Ov (E_lst (E_cons E_cst E_nil) rfl) rfl) (lst_add (by show _ + 1 ≤ 10000000; omega))) (E_cons (E_blt (Ov (E_idx (z := .lst ((cls c).map sg)) (x := lpD w c is os) (Ov (E_var rfl) rfl) E_cst (by kernel_rfl)) rfl) (lnl _)) E_nil)))) (dfl0 9) q19)
  have p20 : MP.exec T Φ sm20 (E Lv (.val (.int (w : Int))) (.val (.str (letS w))) (.val (.int (n : Int))) (.val (.lst (c.map Ins.d))) (.val (.int (q : Int))) (.val (.lst (is.map sg))) (.val (.lst (os.map sg))) (.val (lpD w c is os)) (.val (pieceD 0 w c is os)) (.val (.lst MS)) (.val (.tup S)) (.val (stD 0 R1 C1)) (.val (.tup R2')) (.val (.tup C2)) .no .no .no) [] = .nx (E Lv (.val (.int (w : Int))) (.val (.str (letS w))) (.val (.int (n : Int))) (.val (.lst (c.map Ins.d))) (.val (.int (q : Int))) (.val (.lst (is.map sg))) (.val (.lst (os.map sg))) (.val (lpD w c is os)) (.val (pieceD 0 w c is os)) (.val (.lst MS)) (.val (.tup S)) (.val (stD 0 R1 C1)) (.val (.tup R2')) (.val (.tup C2)) (.val (stD q R2' C2)) .no .no) [] := X_set (E_tup (E_cons (E_var rfl) (E_cons (E_var rfl) (E_cons (E_var rfl) E_nil))) rfl)
  have hR2s : ∀ d ∈ R2', St w d := fun d hd => hMS d (hR2m d hd)
  have hC2s : ∀ d ∈ C2, Cl w d := fun d hd => by
    rcases List.mem_append.mp (hC2m d hd) with m | m
    · exact .inr (hMS d m)
    · exact .inl (List.mem_singleton.mp m)
  obtain ⟨x, hxL, hxi⟩ : ∃ x, x ∈ rgs c is os ∧ idxD (c[q]'(by omega)).d (.int 1) = some (sg x) := by
    obtain ⟨kk, hkk, x, hx, y, _, z, _, u, _, r, hk', e⟩ := hiq
    have hkk : kk = 11 := List.mem_singleton.mp hkk
    subst hkk
    refine ⟨x, List.mem_filter.mpr ⟨lsm x hx, decide_eq_true (List.mem_append_left _ (List.mem_append_left _ (List.mem_flatMap.mpr ⟨c[q]'(by omega), List.getElem_mem _, ?_⟩)))⟩, ?_⟩
    · rw [hcq, e]; simp [row12, Ins.sel, Pt.of]
    · rw [hcq, e]; rfl
  obtain ⟨j, hj1, hj2⟩ := findIdx_mem hxL
  have p21 : MP.exec T Φ sm21 (E Lv (.val (.int (w : Int))) (.val (.str (letS w))) (.val (.int (n : Int))) (.val (.lst (c.map Ins.d))) (.val (.int (q : Int))) (.val (.lst (is.map sg))) (.val (.lst (os.map sg))) (.val (lpD w c is os)) (.val (pieceD 0 w c is os)) (.val (.lst MS)) (.val (.tup S)) (.val (stD 0 R1 C1)) (.val (.tup R2')) (.val (.tup C2)) (.val (stD q R2' C2)) .no .no) [] = .nx (E Lv (.val (.int (w : Int))) (.val (.str (letS w))) (.val (.int (n : Int))) (.val (.lst (c.map Ins.d))) (.val (.int (q : Int))) (.val (.lst (is.map sg))) (.val (.lst (os.map sg))) (.val (lpD w c is os)) (.val (pieceD 0 w c is os)) (.val (.lst MS)) (.val (.tup S)) (.val (stD 0 R1 C1)) (.val (.tup R2')) (.val (.tup C2)) (.val (stD q R2' C2)) .no .no) [] := by
    obtain ⟨y, hy, qy⟩ := dm (tb := T) (Φ := Φ) (h := []) dl (j := 1) (e := E Lv (.val (.int (w : Int))) (.val (.str (letS w))) (.val (.int (n : Int))) (.val (.lst (c.map Ins.d))) (.val (.int (q : Int))) (.val (.lst (is.map sg))) (.val (.lst (os.map sg))) (.val (lpD w c is os)) (.val (pieceD 0 w c is os)) (.val (.lst MS)) (.val (.tup S)) (.val (stD 0 R1 C1)) (.val (.tup R2')) (.val (.tup C2)) (.val (stD q R2' C2)) .no .no) rfl (E_cst (x := .int ((24 : Nat) : Int))) (by omega) (E_blt (bl := .len) (a := .var 11) (x := .lst MS) (z := .int (MS.length : Int)) (Ov (E_var rfl) rfl) rfl) hMS0
    refine (X_for (ds := [MS[y]'hy, .str y_bad, .str y_any, .int 0]) rfl (I_val (x := .lst [MS[y]'hy, .str y_bad, .str y_any, .int 0]) (E_lst (E_cons (E_idx (x := .lst MS) (Ov (E_var rfl) rfl) qy ?_) (E_cons E_cst (E_cons E_cst (E_cons E_cst E_nil)))) rfl) (fun _ z => nomatch z) rfl)).trans (loop_all fun d hd => ?_)
    · show L2.atI MS (y : Int) = _
      rw [atI_nat hy, List.getElem?_eq_getElem hy]
    have hd : St w d := by
      simp only [List.mem_cons, List.mem_nil_iff, or_false] at hd
      rcases hd with rfl | rfl | rfl | rfl
      · exact hMS _ (List.getElem_mem _)
      · exact .inr (.inr rfl)
      · exact .inr (.inl rfl)
      · exact .inl ⟨0, by rcases (show w = 1 ∨ w = 2 ∨ w = 3 by omega) with e | e | e <;> rw [e] <;> decide, rfl⟩
    have hR1000 : R2'.length ≤ 1000 := by omega
    have a1 := ans_ok (tb := T) R13 R21 (dfl0 21) 7 [] (cl := 0) (w := w) (q := q) (c := c) (is := is) (os := os) (R := R2') (C := C2) (x := x) (j := j) (d := d) fl hR1000 (by omega) hxi hj1
    have a2 := lans_ok (tb := T) R14 R22 (dfl0 22) 7 [] (w := w) (q := q) (c := c) (is := is) (os := os) (R := R2') (C := C2) (x := x) (j := j) (d := d) hR1000 (by omega) hxi (smallC_lt (List.mem_filter.mp hxL).1) hj1
    have hR3 : ∀ b ∈ putL R2' j d, St w b := fun b hb => by
      rcases putL_mem hb with rfl | m
      · exact hd
      · exact hR2s b m
    have O3 : StateOk w c is os (q + 1) (putL R2' j d) C2 := ⟨by omega, by rw [putL_len (by omega)]; exact hR2, hR3, hC2, hC2s⟩
    obtain ⟨cm3, _⟩ := st_cmp (p := q + 1) hR3 hC2s

    refine (execs_nx (e' := E Lv (.val (.int (w : Int))) (.val (.str (letS w))) (.val (.int (n : Int))) (.val (.lst (c.map Ins.d))) (.val (.int (q : Int))) (.val (.lst (is.map sg))) (.val (.lst (os.map sg))) (.val (lpD w c is os)) (.val (pieceD 0 w c is os)) (.val (.lst MS)) (.val (.tup S)) (.val (stD 0 R1 C1)) (.val (.tup R2')) (.val (.tup C2)) (.val (stD q R2' C2)) (.val d) (.val (stD (q + 1) (putL R2' j d) C2))) (h' := []) (X_set (e := E Lv (.val (.int (w : Int))) (.val (.str (letS w))) (.val (.int (n : Int))) (.val (.lst (c.map Ins.d))) (.val (.int (q : Int))) (.val (.lst (is.map sg))) (.val (.lst (os.map sg))) (.val (lpD w c is os)) (.val (pieceD 0 w c is os)) (.val (.lst MS)) (.val (.tup S)) (.val (stD 0 R1 C1)) (.val (.tup R2')) (.val (.tup C2)) (.val (stD q R2' C2)) (.val d) .no) (E_call (E_cons (E_var rfl) (E_cons (E_var rfl) (E_cons (E_var rfl) E_nil))) (dfl0 13) a1))).trans ?_
    exact (execs_nx (X_skip (T_or0 (T_not (t := .v _) (r := true) (T_v (E_call (E_cons (E_var rfl) (E_cons (E_var rfl) E_nil)) (dfl0 12) (isstate_ok sf 5 [] w3 O3)))) (T_v (E_cmp (Ov (E_var rfl) view_st) (Ov (E_call (E_cons (E_var rfl) (E_cons (E_var rfl) (E_cons (E_var rfl) E_nil))) (dfl0 14) a2) view_st) cm3))))).trans rfl
  have p22 : MP.exec T Φ sm22 (E Lv (.val (.int (w : Int))) (.val (.str (letS w))) (.val (.int (n : Int))) (.val (.lst (c.map Ins.d))) (.val (.int (q : Int))) (.val (.lst (is.map sg))) (.val (.lst (os.map sg))) (.val (lpD w c is os)) (.val (pieceD 0 w c is os)) (.val (.lst MS)) (.val (.tup S)) (.val (stD 0 R1 C1)) (.val (.tup R2')) (.val (.tup C2)) (.val (stD q R2' C2)) .no .no) [] = .nx (E Lv (.val (.int (w : Int))) (.val (.str (letS w))) (.val (.int (n : Int))) (.val (.lst (c.map Ins.d))) (.val (.int (q : Int))) (.val (.lst (is.map sg))) (.val (.lst (os.map sg))) (.val (lpD w c is os)) (.val (pieceD 0 w c is os)) (.val (.lst MS)) (.val (.tup S)) (.val (stD 0 R1 C1)) (.val (.tup R2')) (.val (.tup C2)) (.val (stD q R2' C2)) .no .no) [] := rfl
  obtain ⟨_, cm4⟩ := st_cmp (p := q) hR2s hC2s
  refine ⟨[], callN_of F0 rfl rfl (run_of b0_eq (e := E .no .no .no .no .no .no .no .no .no .no .no .no .no .no .no .no .no .no) rfl rfl ?_)⟩
  have p23 : MP.exec T Φ sm23 (E Lv (.val (.int (w : Int))) (.val (.str (letS w))) (.val (.int (n : Int))) (.val (.lst (c.map Ins.d))) (.val (.int (q : Int))) (.val (.lst (is.map sg))) (.val (.lst (os.map sg))) (.val (lpD w c is os)) (.val (pieceD 0 w c is os)) (.val (.lst MS)) (.val (.tup S)) (.val (stD 0 R1 C1)) (.val (.tup R2')) (.val (.tup C2)) (.val (stD q R2' C2)) .no .no) [] = .rt (.bl true) [] := X_ret (E_and1 (E_cmp (Ov (E_var rfl) view_st) (Ov (E_tup (ds := [.int (q : Int), .tup R2', .tup C2]) (E_cons (E_var rfl) (E_cons (E_var rfl) (E_cons (E_var rfl) E_nil))) rfl) view_st) cm4) (E_cmp (Ov (E_call (E_cons (E_var rfl) (E_cons (E_var rfl) E_nil)) (dfl0 10) f1) view_st) (Ov (E_var rfl) view_st) cm2))
  exact (execs_nx p1).trans ((execs_nx p2).trans ((execs_nx p3).trans ((execs_nx p4).trans ((execs_nx p5).trans ((execs_nx p6).trans ((execs_nx p7).trans ((execs_nx p8).trans ((execs_nx p9).trans ((execs_nx p10).trans ((execs_nx p11).trans ((execs_nx p12).trans ((execs_nx p13).trans ((execs_nx p14).trans ((execs_nx p15).trans ((execs_nx p16).trans ((execs_nx p17).trans ((execs_nx p18).trans ((execs_nx p19).trans ((execs_nx p20).trans ((execs_nx p21).trans ((execs_nx p22).trans (execs_rt p23))))))))))))))))))))))
end K10

set_option maxRecDepth 100000
set_option maxHeartbeats 0
open PySem PySem.W PySem.Calls PyProof.Rows
theorem PySem.Challenge.cw_badvalues_k10_first_and_answered_holds : PySem.Challenge.rw_badvalues_k10_first_and_answered.Holds := by
  w_on; o_law
  refine HandSHeadRun.head_any (r := OpenLaw.row PySem.Challenge.rw_badvalues_k10_first_and_answered) (q := view (OpenLaw.row PySem.Challenge.rw_badvalues_k10_first_and_answered).prog [36]) (H := K10.W.hk) (ob := K10.W.ob) (M := 9000) (loose := K10.names) (d := HandSHeadRun.topDef (OpenLaw.row PySem.Challenge.rw_badvalues_k10_first_and_answered).prog 36) (kwd := []) K10.W.ob_eq
    (by kernel_rfl) (fun s => by kernel_rfl) K10.runH (by kernel_rfl) (by kernel_rfl) (by kernel_rfl) (by rfl) (by first | assumption | decide +kernel) (by decide +kernel) ⟨rfl, rfl, rfl, rfl, rfl, by decide +kernel⟩ ?hw ?hc
  case hw => w_witness2
  case hc =>
    refine L2.walk_ofE (l := PySem.Challenge.rw_badvalues_k10_first_and_answered) (n := 63) (k := 20) (x := "_law_script") (CX := MP.cx0) rfl (by decide) (by kernel_rfl) ⟨rfl, by decide, by decide⟩ ?F (fun _ _ _ _ z => z)
    intro w mg fa h Y G hmg0
    obtain ⟨K, KX, c⟩ := Y
    have hmg : mg ("law" : PySem.Str) = some (.ref fa) := by
      have e : (HandSHeadRun.topDef (OpenLaw.row PySem.Challenge.rw_badvalues_k10_first_and_answered).prog 36).name = ("law" : PySem.Str) := by kernel_rfl
      rw [← e]
      exact hmg0
    obtain ⟨fdat, hb, T0⟩ := K10.txt (w := w) KX G c
    exact MP.law_end KX G hmg hb T0 rfl rfl rfl K10.law_ok

