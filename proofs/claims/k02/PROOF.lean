import PyProof.Rows.All
import Wide.All
import OpenK.AllK
import Wide.FinOn
import HandS.ForMost
import HandS.Slots
import HandS.Exc
import HandS.IsInst
import HandS.Walk
import KE.GoesMore
import KE.KUnpackStar
import HandS.FStr
import HandS.RaiseMore
import HandS.Defaults
import HandS.WordsExc
import HandS.Style
import HandS.StrMore
import PySem.Challenge.RW_askedfacts_k02_new_names
set_option Elab.async false
set_option linter.all false
/-! ZData: plain data, slots, what stands for them in the abstract heap. -/
namespace Z
open PySem L2

/-! ### data -/
inductive D where
  | non | bl (b : Bool) | int (i : Int) | str (s : List Nat)
  | tup (xs : List D) | lst (xs : List D) | frl (xs : List D) | dct (kvs : List (D × D)) | obj (c : Nat) (fs : List D)
deriving Inhabited

inductive Md where
  | fz | ow | io | lk
deriving DecidableEq

/-- a slot: not assigned, or a value: fz (it never changes), ow (ours alone), io (an argument that we may change), lk (ours, walked just now) -/
abbrev Sl := Option (Md × D)
abbrev DSt := List Sl

/-! ### what a class of the text is, by its number -/
/-- a class: its instances keep their fields in a dict, or in slots (each by its name, its descriptor, its place) -/
inductive CI where
  | dict (C : Addr) (ns : List Str)
  | slot (C : Addr) (ss : List (Str × Addr × Nat))
structure Tab where
  K : PySem.W.Frag
  cl : Nat → Option CI
  ex : Nat → Option (Addr × List Str)

def sx (s : List Nat) : Str := ⟨s.toArray⟩
def keyD : Key → D
  | .inl i => .int i
  | .inr s => .str s.cps.toList

/-- an instance with slots, sl as far as they are known -/
def Sl3 (H : Hp) (a C dx : Addr) (sl : List (Option V)) : Prop := (H a = some (.ins C dx []) ∧ sl = [] ∧ H dx = some (.own a)) ∨ (H a = some (SlX.SlO a C dx sl) ∧ H dx = some (.xd []))
theorem Sl3.slt {H : Hp} {a C dx : Addr} {sl : List (Option V)} (h : Sl3 H a C dx sl) : SlX.Slt H a C dx sl := by
  rcases h with ⟨h1, h2, _⟩ | h
  · exact .inl ⟨h1, h2⟩
  · exact .inr h
/-- an instance at a with the first fields vs -/
inductive Ins (T : Tab) (H : Hp) (a : Addr) (c : Nat) (vs : List V) : Prop
  | dict {C dx : Addr} {ns : List Str} : T.cl c = some (.dict C ns) → vs.length ≤ ns.length → H a = some (.ins C dx (ns.zip vs)) → Ins T H a c vs
  | slot {C dx : Addr} {ss : List (Str × Addr × Nat)} {sl : List (Option V)} : T.cl c = some (.slot C ss) → vs.length ≤ ss.length → Sl3 H a C dx sl →
      (∀ (k : Nat) (v : V), vs[k]? = some v → ∃ s, ss[k]? = some s ∧ sl[s.2.2]? = some (some v)) → Ins T H a c vs

mutual
inductive Rep (T : Tab) (S : Hp) : V → D → Prop
  | non : Rep T S .non .non
  | bl (b : Bool) : Rep T S (.bl b) (.bl b)
  | int (i : Int) : Rep T S (.int i) (.int i)
  | str (s : List Nat) : Rep T S (.str (sx s)) (.str s)
  | tup {a : Addr} {vs : List V} {ds : List D} : SqT T.K S a vs → RepL T S vs ds → Rep T S (.ref a) (.tup ds)
  | lst {a : Addr} {vs : List V} {ds : List D} : S a = some (.lst vs) → RepL T S vs ds → Rep T S (.ref a) (.lst ds)
  | frl {a : Addr} {vs : List V} {ds : List D} : SqL T.K S a vs → RepL T S vs ds → Rep T S (.ref a) (.frl ds)
  | dK {a : Addr} {ks : List (Key × V)} {ds : List D} : S a = some (.dK ks) → RepL T S (ks.map (·.2)) ds → Rep T S (.ref a) (.dct ((ks.map fun p => keyD p.1).zip ds))
  | dT {a : Addr} {ks : List (List Key × V)} {ds : List D} : S a = some (.dT ks) → RepL T S (ks.map (·.2)) ds → Rep T S (.ref a) (.dct ((ks.map fun p => D.tup (p.1.map keyD)).zip ds))
  | obj {a : Addr} {c : Nat} {vs : List V} {ds : List D} : Ins T S a c vs → RepL T S vs ds → Rep T S (.ref a) (.obj c ds)
inductive RepL (T : Tab) (S : Hp) : List V → List D → Prop
  | nil : RepL T S [] []
  | cons {v : V} {d : D} {vs : List V} {ds : List D} : Rep T S v d → RepL T S vs ds → RepL T S (v :: vs) (d :: ds)
end

def Sub (S H : Hp) : Prop := ∀ b o, S b = some o → H b = some o
theorem Sub.refl (S : Hp) : Sub S S := fun _ _ h => h
theorem Sub.trans {A B C : Hp} (h : Sub A B) (k : Sub B C) : Sub A C := fun b o e => k b o (h b o e)
theorem Rd.sub {S S' : Hp} {a : Addr} {u : HO} (h : Sub S S') (r : Rd S a u) : Rd S' a u := by
  rcases r with r | ⟨o, r⟩
  · exact .inl (h _ _ r)
  · exact .inr ⟨o, h _ _ r⟩
theorem sqL_sub {K : PySem.W.Frag} {S S' : Hp} {a : Addr} {xs : List V} (h : Sub S S') (r : SqL K S a xs) : SqL K S' a xs := by
  rcases r with r | r
  · exact .inl (Rd.sub h r)
  · exact .inr r
theorem sqT_sub {K : PySem.W.Frag} {S S' : Hp} {a : Addr} {xs : List V} (h : Sub S S') (r : SqT K S a xs) : SqT K S' a xs := by
  rcases r with r | r
  · exact .inl (Rd.sub h r)
  · exact .inr r
theorem sl3_sub {H H' : Hp} (h : Sub H H') {a C dx : Addr} {vs : List (Option V)} (r : Sl3 H a C dx vs) : Sl3 H' a C dx vs := by
  rcases r with ⟨r, e, k⟩ | ⟨r, e⟩
  · exact .inl ⟨h _ _ r, e, h _ _ k⟩
  · exact .inr ⟨h _ _ r, h _ _ e⟩
theorem Ins.sub {T : Tab} {H H' : Hp} (h : Sub H H') {a : Addr} {c : Nat} {vs : List V} (r : Ins T H a c vs) : Ins T H' a c vs := by
  cases r with
  | dict e1 e2 e3 => exact .dict e1 e2 (h _ _ e3)
  | slot e1 e2 e3 e4 => exact .slot e1 e2 (sl3_sub h e3) e4
mutual
theorem Rep.sub {T : Tab} {S S' : Hp} (h : Sub S S') : ∀ {v : V} {d : D}, Rep T S v d → Rep T S' v d
  | _, _, .non => .non
  | _, _, .bl b => .bl b
  | _, _, .int i => .int i
  | _, _, .str s => .str s
  | _, _, .tup a r => .tup (sqT_sub h a) (RepL.sub h r)
  | _, _, .lst a r => .lst (h _ _ a) (RepL.sub h r)
  | _, _, .frl a r => .frl (sqL_sub h a) (RepL.sub h r)
  | _, _, .dK a r => .dK (h _ _ a) (RepL.sub h r)
  | _, _, .dT a r => .dT (h _ _ a) (RepL.sub h r)
  | _, _, .obj a r => .obj (a.sub h) (RepL.sub h r)
theorem RepL.sub {T : Tab} {S S' : Hp} (h : Sub S S') : ∀ {vs : List V} {ds : List D}, RepL T S vs ds → RepL T S' vs ds
  | _, _, .nil => .nil
  | _, _, .cons a r => .cons (Rep.sub h a) (RepL.sub h r)
end
theorem RepL.length {T : Tab} {S : Hp} : ∀ {vs : List V} {ds : List D}, RepL T S vs ds → vs.length = ds.length
  | _, _, .nil => rfl
  | _, _, .cons _ r => by simp [RepL.length r]
theorem RepL.get {T : Tab} {S : Hp} : ∀ {vs : List V} {ds : List D} {i : Nat} {d : D}, RepL T S vs ds → ds[i]? = some d → ∃ v, vs[i]? = some v ∧ Rep T S v d
  | _, _, _, _, .nil, e => by simp at e
  | _, _, 0, _, .cons r _, e => by simp at e; subst e; exact ⟨_, rfl, r⟩
  | _, _, i + 1, d, .cons _ t, e => by
    obtain ⟨u, h1, h2⟩ := RepL.get (i := i) (d := d) t (by simpa using e)
    exact ⟨u, by simpa using h1, h2⟩
theorem RepL.getV {T : Tab} {S : Hp} : ∀ {vs : List V} {ds : List D} {i : Nat} {v : V}, RepL T S vs ds → vs[i]? = some v → ∃ d, ds[i]? = some d ∧ Rep T S v d
  | _, _, _, _, .nil, e => by simp at e
  | _, _, 0, _, .cons r _, e => by simp at e; subst e; exact ⟨_, rfl, r⟩
  | _, _, i + 1, d, .cons _ t, e => by
    obtain ⟨u, h1, h2⟩ := RepL.getV (i := i) (v := d) t (by simpa using e)
    exact ⟨u, by simpa using h1, h2⟩
theorem RepL.append {T : Tab} {S : Hp} : ∀ {vs ws : List V} {ds es : List D}, RepL T S vs ds → RepL T S ws es → RepL T S (vs ++ ws) (ds ++ es)
  | _, _, _, _, .nil, k => k
  | _, _, _, _, .cons a r, k => .cons a (RepL.append r k)
theorem RepL.set {T : Tab} {S : Hp} {v : V} {d : D} (h : Rep T S v d) : ∀ {vs : List V} {ds : List D} (i : Nat), RepL T S vs ds → RepL T S (vs.set i v) (ds.set i d)
  | _, _, _, .nil => .nil
  | _, _, 0, .cons _ r => .cons h r
  | _, _, i + 1, .cons a r => .cons a (RepL.set h i r)
theorem RepL.take {T : Tab} {S : Hp} : ∀ {vs : List V} {ds : List D} (n : Nat), RepL T S vs ds → RepL T S (vs.take n) (ds.take n)
  | _, _, 0, _ => .nil
  | _, _, _ + 1, .nil => .nil
  | _, _, n + 1, .cons a r => .cons a (RepL.take n r)
theorem RepL.drop {T : Tab} {S : Hp} : ∀ {vs : List V} {ds : List D} (n : Nat), RepL T S vs ds → RepL T S (vs.drop n) (ds.drop n)
  | _, _, 0, r => r
  | _, _, _ + 1, .nil => .nil
  | _, _, n + 1, .cons _ r => RepL.drop n r
theorem RepL.reverse {T : Tab} {S : Hp} : ∀ {vs : List V} {ds : List D}, RepL T S vs ds → RepL T S vs.reverse ds.reverse
  | _, _, .nil => .nil
  | _, _, .cons a r => by simpa using RepL.append (RepL.reverse r) (.cons a .nil)
theorem RepL.dropLast {T : Tab} {S : Hp} {vs : List V} {ds : List D} (r : RepL T S vs ds) : RepL T S vs.dropLast ds.dropLast := by
  rw [List.dropLast_eq_take, List.dropLast_eq_take, r.length]
  exact r.take _
theorem RepL.eraseIdx {T : Tab} {S : Hp} : ∀ {vs : List V} {ds : List D} (i : Nat), RepL T S vs ds → RepL T S (vs.eraseIdx i) (ds.eraseIdx i)
  | _, _, _, .nil => .nil
  | _, _, 0, .cons _ r => r
  | _, _, i + 1, .cons a r => .cons a (RepL.eraseIdx i r)
end Z

set_option Elab.async false
set_option linter.all false
/-! ZSyn: a small syntax of what the program's defs do, and what it means over plain data. -/
namespace Z
open PySem L2

def sizeL : Nat := 16777216
/-- an error: its class, its fields -/
structure Ex where
  c : Nat
  fs : List D

inductive Out (α : Type) where
  | ok (a : α) (δ : DSt) | ex (x : Ex) (δ : DSt) | bad
@[simp] def Out.bind {α β : Type} (o : Out α) (f : α → DSt → Out β) : Out β := match o with
  | .ok a δ => f a δ
  | .ex x δ => .ex x δ
  | .bad => .bad

inductive R where
  | fz (d : D) | fr (d : D)
def R.d : R → D
  | .fz d => d
  | .fr d => d
/-- what may be given away (an instance has a field at least) -/
def givable : D → Bool
  | .lst _ => true
  | .dct _ => true
  | .obj _ (_ :: _) => true
  | _ => false

/-- what a call gives: its result and what has become of the arguments (one each); an error; bad: nothing is claimed -/
inductive OutF where
  | ok (r : R) (outs : List D) | ex (x : Ex) (outs : List D) | bad
/-- a def: its number, what it does with arguments (io: it may change it) -/
structure Fn where
  id : Nat
  sem : List (Md × D) → OutF

inductive K1 where
  | len | abs | int | tuple | list | str | neg | isN | notN | all | any | rev | fmt | isT | notT
deriving DecidableEq
inductive K2 where
  | add | sub | mul | fdiv | mod | pow | eq | ne | lt | le | gt | ge | in_ | notin | idx | max
deriving DecidableEq
/-- methods of a text with one argument -/
inductive M1 where
  | join | lstrip | split | find | endswith | rmpre | part
deriving DecidableEq
/-- what isinstance asks -/
inductive Ki where
  | int | str | bool | list | tuple | dict | cls (c : Nat)
deriving DecidableEq

mutual
inductive E where
  | var (i : Nat)
  | int (i : Int) | str (s : List Nat) | bl (b : Bool) | non
  | gl (x : String) (d : D)
  | dspc (k : List Nat) (i : Int)
  | fs (es : Es)
  | tup (es : Es) | lst (es : Es)
  | op1 (p : K1) (a : E)
  | op2 (p : K2) (a b : E)
  | sm1 (p : M1) (a b : E)
  | slc (a : E) (lo hi : OE)
  | isi (a : E) (one : Bool) (ks : List Ki)
  | and (a b : E) | or (a b : E) | one (a : E) | not (a : E) | ife (c a b : E)
  | chn (p q : K2) (a b c : E)
  | fld (a : E) (c f : Nat)
  | pop (i : Nat)
  | call (f : Fn) (as : As)
  | callk (f : Fn) (as kas : As)
  | comp (tg : List Nat) (src : Src) (cond : OE) (elt : E)
inductive Es where
  | nil | cons (e : E) (es : Es)
inductive OE where
  | none | some (e : E)
inductive As where
  | nil | ev (e : E) (as : As) | pk (i : Nat) (as : As)
inductive Src where
  | seq (e : E) | rng1 (e : E) | rng2 (a b : E) | zip (a b : E)
end

/-! ### primitives over data -/
/-- the place that an index means -/
def ixD (n : Nat) (i : Int) : Option Nat := if 0 ≤ i then (if i < n then some i.toNat else none) else if -(n : Int) ≤ i then some (i + n).toNat else none
def int64 (i : Int) : Bool := decide (i.natAbs < 18446744073709551616)
def range62 (i : Int) : Bool := decide (i.natAbs < 4611686018427387904)
def cpsD (z : Str) : List Nat := z.cps.toList
def blsD : List D → Option (List Bool)
  | [] => some []
  | .bl b :: ds => (blsD ds).map (b :: ·)
  | _ :: _ => none
def k1 : K1 → D → Option R
  | .len, .str s => if s.length ≤ sizeL then some (.fz (.int s.length)) else none
  | .len, .tup ds => some (.fz (.int ds.length))
  | .len, .lst ds => some (.fz (.int ds.length))
  | .len, .frl ds => some (.fz (.int ds.length))
  | .abs, .int i => some (.fz (.int (if i < 0 then -i else i)))
  | .neg, .int i => some (.fz (.int (-i)))
  | .int, .int i => some (.fz (.int i))
  | .int, .bl b => some (.fz (.int (if b then 1 else 0)))
  | .tuple, .lst ds => some (.fz (.tup ds))
  | .tuple, .tup ds => some (.fz (.tup ds))
  | .list, .lst ds => some (.fr (.lst ds))
  | .list, .tup ds => some (.fr (.lst ds))
  | .isN, .non => some (.fz (.bl true))
  | .isN, _ => some (.fz (.bl false))
  | .notN, .non => some (.fz (.bl false))
  | .notN, _ => some (.fz (.bl true))
  | .isT, .bl b => some (.fz (.bl b))
  | .notT, .bl b => some (.fz (.bl (!b)))
  | .rev, .lst ds => some (.fr (.lst ds.reverse))
  | .fmt, .str s => if s.length ≤ sizeL then some (.fz (.str s)) else none
  | .fmt, .int i => if i.natAbs.log2 < 1920 then some (.fz (.str (cpsD (toString i)))) else none
  | .str, .int i => if i.natAbs.log2 < 1920 then some (.fz (.str (cpsD (toString i)))) else none
  | .str, .str s => some (.fz (.str s))
  | .all, .lst ds => (blsD ds).map fun bs => .fz (.bl (bs.all id))
  | .any, .lst ds => (blsD ds).map fun bs => .fz (.bl (bs.any id))
  | _, _ => none

/-! data that == compares by itself -/
mutual
def pyd : D → Option PyData
  | .non => some .none
  | .bl b => some (.bool b)
  | .int i => some (.int i)
  | .str s => some (.str (sx s))
  | .tup ds => (pyds ds).map .tuple
  | .lst ds => (pyds ds).map .list
  | .frl _ => none
  | .dct _ => none
  | .obj _ _ => none
def pyds : List D → Option (List PyData)
  | [] => some []
  | d :: ds => match pyd d, pyds ds with
    | some x, some xs => some (x :: xs)
    | _, _ => none
end
def eqD (a b : D) : Option Bool := match pyd a, pyd b with
  | some x, some y => if SeqAt.shaped x && SeqAt.shaped y then some (PyData.eqv x y) else none
  | _, _ => none
def flatD : D → Bool
  | .non => true
  | .bl _ => true
  | .int _ => true
  | .str _ => true
  | _ => false
/-- == of flat data -/
def eqF : D → D → Bool
  | .non, .non => true
  | .bl a, .bl b => a == b
  | .bl a, .int b => (if a then 1 else 0) == b
  | .int a, .bl b => a == (if b then 1 else 0)
  | .int a, .int b => a == b
  | .str a, .str b => a == b
  | _, _ => false
def inD (x : D) : D → Option Bool
  | .str s => match x with
    | .str [c] => some (decide (c ∈ s))
    | _ => none
  | .lst ds => if flatD x && ds.all flatD then some (ds.any fun y => eqF y x) else none
  | .tup ds => if flatD x && ds.all flatD then some (ds.any fun y => eqF y x) else none
  | _ => none
def idxD : D → D → Option D
  | .str s, .int i => if s.length ≤ sizeL then (ixD s.length i).bind fun j => (s[j]?).map fun c => .str [c] else none
  | .lst ds, .int i => (ixD ds.length i).bind fun j => ds[j]?
  | .tup ds, .int i => (ixD ds.length i).bind fun j => ds[j]?
  | _, _ => none
def strsD : List D → Option (List (List Nat))
  | [] => some []
  | .str s :: ds => (strsD ds).map (s :: ·)
  | _ :: _ => none
/-- sep.join -/
def joinL (sep : List Nat) : List (List Nat) → List Nat
  | [] => []
  | [s] => s
  | s :: t :: r => s ++ sep ++ joinL sep (t :: r)
def k2 : K2 → D → D → Option R
  | .add, .int i, .int j => some (.fz (.int (i + j)))
  | .add, .str s, .str t => if s.length + t.length ≤ sizeL then some (.fz (.str (s ++ t))) else none
  | .add, .lst s, .lst t => if s.length + t.length ≤ sizeL then some (.fr (.lst (s ++ t))) else none
  | .sub, .int i, .int j => some (.fz (.int (i - j)))
  | .mul, .int i, .int j => if int64 i || int64 j then some (.fz (.int (i * j))) else none
  | .mul, .str s, .int i => if 0 ≤ i ∧ i ≤ 1000 ∧ s.length ≤ 1000 then some (.fz (.str (List.replicate i.toNat s).flatten)) else none
  | .fdiv, .int i, .int j => if 0 < j && j < 1073741824 then some (.fz (.int (i / j))) else none
  | .mod, .int i, .int j => if 0 < j then some (.fz (.int (i % j))) else none
  | .pow, .int i, .int j => if 0 ≤ j && j ≤ 1000 && int64 i && int64 (-i) then some (.fz (.int (i ^ j.toNat))) else none
  | .lt, .int i, .int j => some (.fz (.bl (decide (i < j))))
  | .le, .int i, .int j => some (.fz (.bl (decide (i ≤ j))))
  | .gt, .int i, .int j => some (.fz (.bl (decide (j < i))))
  | .ge, .int i, .int j => some (.fz (.bl (decide (j ≤ i))))
  | .eq, a, b => (eqD a b).map fun c => .fz (.bl c)
  | .ne, a, b => (eqD a b).map fun c => .fz (.bl (!c))
  | .in_, a, b => (inD a b).map fun c => .fz (.bl c)
  | .notin, a, b => (inD a b).map fun c => .fz (.bl (!c))
  | .idx, a, b => (idxD a b).map .fz
  | .max, .int i, .int j => some (.fz (.int (if j > i then j else i)))
  | _, _, _ => none
def m1 : M1 → List Nat → D → Option R
  | .join, sep, .lst ds => match strsD ds with
    | some ys => if (ys.map List.length).sum + ys.length * sep.length ≤ sizeL then some (.fz (.str (joinL sep ys))) else none
    | none => none
  | .lstrip, s, .str t => if s.length ≤ sizeL then some (.fz (.str (cpsD (Txt.lstripChars (sx s) (sx t))))) else none
  | .rmpre, s, .str t => if s.length ≤ sizeL then some (.fz (.str (cpsD (Txt.removeprefix (sx s) (sx t))))) else none
  | .split, s, .str t => if t.length ≠ 0 ∧ s.length + 2 ≤ sizeL then some (.fr (.lst ((Txt.split (sx s) (sx t)).map fun z => .str (cpsD z)))) else none
  | .find, s, .str t => some (.fz (.int (Txt.find (sx s) (sx t))))
  | .endswith, s, .str t => some (.fz (.bl (Txt.endswith (sx s) (sx t))))
  | .part, s, .str t => if t.length ≠ 0 ∧ s.length ≤ sizeL then some (.fz (.tup [.str (cpsD (Txt.partition (sx s) (sx t)).1), .str (cpsD (Txt.partition (sx s) (sx t)).2.1), .str (cpsD (Txt.partition (sx s) (sx t)).2.2)])) else none
  | _, _, _ => none
/-- the bounds of a slice -/
def clipD (n d : Nat) : Option Int → Nat
  | none => d
  | some v => if v < 0 then (v + n).toNat else min v.toNat n
def cutD {α : Type} (xs : List α) (lo hi : Option Int) : List α := (xs.drop (clipD xs.length 0 lo)).take (clipD xs.length xs.length hi - clipD xs.length 0 lo)
def slcD (a : D) (lo hi : Option Int) : Option R := match a with
  | .str s => if s.length ≤ sizeL then some (.fz (.str (cutD s lo hi))) else none
  | .lst ds => some (.fr (.lst (cutD ds lo hi)))
  | .frl ds => some (.fr (.lst (cutD ds lo hi)))
  | .tup ds => if clipD ds.length 0 lo = 0 ∧ clipD ds.length ds.length hi = ds.length then none else some (.fz (.tup (cutD ds lo hi)))
  | _ => none
/-- what == type a plain value has; an instance is asked otherwise -/
def kiD : D → Ki → Option Bool
  | .obj _ _, _ => none
  | _, .cls _ => none
  | .int _, k => some (k == .int)
  | .bl _, k => some (k == .int || k == .bool)
  | .str _, k => some (k == .str)
  | .lst _, k => some (k == .list)
  | .frl _, k => some (k == .list)
  | .tup _, k => some (k == .tuple)
  | .dct _, k => some (k == .dict)
  | .non, _ => some false
def kisD (d : D) : List Ki → Option Bool
  | [] => some false
  | k :: ks => match kiD d k with
    | some true => some true
    | some false => kisD d ks
    | none => none

/-! ### expressions -/
/-- an argument: a value, or what a slot holds -/
inductive AR where
  | val (d : D) | pk (i : Nat)
def slotD (δ : DSt) (i : Nat) : Option (Md × D) := (δ[i]?).join
def res (δ : DSt) : AR → Option D
  | .val d => some d
  | .pk i => (slotD δ i).map (·.2)
/-- a result that is kept is kept as it is -/
def frz (r : R) (δ : DSt) : Out AR := match r with
  | .fz d => .ok (.val d) δ
  | .fr d => if givable d then .ok (.val d) δ else .bad
/-- an argument that is read alone: a slot's object stays the slot's -/
def rd (a : E) (o : Out R) (δ : DSt) : Out AR := match a with
  | .var i => match slotD δ i with
    | some _ => .ok (.pk i) δ
    | none => .bad
  | _ => o.bind frz
def opt1 (δ : DSt) (r : Option R) : Out R := match r with
  | some r => .ok r δ
  | none => .bad
/-- a bool -/
def isB (r : R) (δ : DSt) : Out Bool := match r with
  | .fz (.bl b) => .ok b δ
  | _ => .bad
def isI (r : R) (δ : DSt) : Out (Option Int) := match r with
  | .fz (.int i) => .ok (some i) δ
  | _ => .bad
/-- a slot as an argument of a call: its mode there -/
def argOf (δ : DSt) (i : Nat) : Option (Md × D) := match slotD δ i with
  | some (.fz, d) => some (.fz, d)
  | some (.ow, d) => some (.io, d)
  | some (.io, d) => some (.io, d)
  | _ => none
/-- arguments: values, or slots (each of them once) -/
def argsOf (δ : DSt) : List AR → Option (List (Md × D))
  | [] => some []
  | .val d :: r => (argsOf δ r).map ((.fz, d) :: ·)
  | .pk i :: r => if r.any (fun x => match x with | .pk j => i == j | .val _ => false) then none else match argOf δ i, argsOf δ r with
    | some x, some xs => some (x :: xs)
    | _, _ => none
/-- what a call has made of the slots that were its arguments -/
def backTo (δ : DSt) : List AR → List D → Option DSt
  | [], [] => some δ
  | .val _ :: r, _ :: ds => backTo δ r ds
  | .pk i :: r, d :: ds => match slotD δ i with
    | some (.fz, _) => backTo δ r ds
    | some (m, _) => backTo (δ.set i (some (m, d))) r ds
    | none => none
  | _, _ => none
def callD (f : Fn) (as : List AR) (δ : DSt) : Out R := match argsOf δ as with
  | none => .bad
  | some xs => match f.sem xs with
    | .ok r outs => match backTo δ as outs with
      | some δ' => .ok r δ'
      | none => .bad
    | .ex x outs => match backTo δ as outs with
      | some δ' => .ex x δ'
      | none => .bad
    | .bad => .bad
/-- the targets of a loop get an item -/
def bindM (is : List Nat) (x : D) (δ : DSt) : Option DSt := match x with
  | .tup ds => if ds.length = is.length then some ((is.zip ds).foldl (fun δ p => δ.set p.1 (some (.fz, p.2))) δ) else none
  | _ => none
def bindT (tg : List Nat) (x : D) (δ : DSt) : Option DSt := match tg with
  | [i] => some (δ.set i (some (.fz, x)))
  | is => bindM is x δ
def wipeD (tg : List Nat) (δ : DSt) : DSt := tg.foldl (fun δ i => δ.set i none) δ
/-- the slots tg as they are in δ0 -/
def backW (tg : List Nat) (δ0 δ : DSt) : DSt := tg.foldl (fun δ i => δ.set i ((δ0[i]?).join)) δ
/-- no slot of tg holds an object of ours -/
def freeT (tg : List Nat) (δ : DSt) : Bool := tg.all fun i => match slotD δ i with
  | none => true
  | some (.fz, _) => true
  | _ => false
/-- one turn after another of a comprehension -/
def compL (tg : List Nat) (cond : Option (DSt → Out Bool)) (elt : DSt → Out D) : List D → List D → DSt → Out (List D)
  | [], acc, δ => .ok acc δ
  | x :: xs, acc, δ => match bindT tg x (wipeD tg δ) with
    | none => .bad
    | some δ => match cond with
      | none => (elt δ).bind fun d δ => if acc.length < sizeL then compL tg cond elt xs (acc ++ [d]) δ else .bad
      | some c => (c δ).bind fun b δ => if b then (elt δ).bind fun d δ => if acc.length < sizeL then compL tg cond elt xs (acc ++ [d]) δ else .bad else compL tg cond elt xs acc δ
def noEx {α : Type} (o : Out α) : Out α := match o with
  | .ex _ _ => .bad
  | o => o
/-- the slot that a walk locks, if any -/
def lockI (δ : DSt) : AR → Option Nat
  | .val _ => none
  | .pk i => match slotD δ i with
    | some (.fz, _) => none
    | _ => some i
def lockD (δ : DSt) (l : Option Nat) : DSt := match l with
  | none => δ
  | some i => match slotD δ i with
    | some (.fz, _) => δ
    | some (_, d) => δ.set i (some (.lk, d))
    | none => δ
/-- behind the walk the slot is what it was (unless it was given anew) -/
def openD (δ0 δ : DSt) (l : Option Nat) : DSt := match l with
  | none => δ
  | some i => match slotD δ i with
    | some (.lk, _) => δ.set i ((δ0[i]?).join)
    | _ => δ
def seqD : D → Option (List D)
  | .lst ds => some ds
  | .tup ds => some ds
  | .str s => some (s.map fun c => .str [c])
  | _ => none
def intsD (lo : Int) (n : Nat) : List D := (List.range n).map fun (i : Nat) => .int (lo + i)
def zipD (xs ys : List D) : List D := (xs.zip ys).map fun p => .tup [p.1, p.2]

mutual
def den : E → DSt → Out R
  | .var i, δ => match slotD δ i with
    | some (.fz, d) => .ok (.fz d) δ
    | some (.ow, d) => if givable d then .ok (.fz d) (δ.set i (some (.fz, d))) else .bad
    | _ => .bad
  | .int i, δ => .ok (.fz (.int i)) δ
  | .str s, δ => .ok (.fz (.str s)) δ
  | .bl b, δ => .ok (.fz (.bl b)) δ
  | .non, δ => .ok (.fz .non) δ
  | .gl _ d, δ => .ok (.fz d) δ
  | .dspc k i, δ => .ok (.fr (.dct [(.str k, .int i)])) δ
  | .fs es, δ => match denEs es δ with
    | .ok ds δ => match strsD ds with
      | some ys => if ys.flatten.length ≤ sizeL then .ok (.fz (.str ys.flatten)) δ else .bad
      | none => .bad
    | _ => .bad
  | .tup es, δ => (denEs es δ).bind fun ds δ => .ok (.fz (.tup ds)) δ
  | .lst es, δ => (denEs es δ).bind fun ds δ => .ok (.fr (.lst ds)) δ
  | .op1 p a, δ => (rd a (den a δ) δ).bind fun x δ => opt1 δ ((res δ x).bind (k1 p))
  | .op2 p a b, δ => (rd a (den a δ) δ).bind fun x δ => (rd b (den b δ) δ).bind fun y δ => opt1 δ ((res δ x).bind fun d => (res δ y).bind (k2 p d))
  | .sm1 p a b, δ => (rd a (den a δ) δ).bind fun x δ => match res δ x with
    | some (.str s) => (rd b (den b δ) δ).bind fun y δ => opt1 δ ((res δ y).bind (m1 p s))
    | _ => .bad
  | .slc a lo hi, δ => (rd a (den a δ) δ).bind fun x δ => (denO lo δ).bind fun l δ => (denO hi δ).bind fun h δ => opt1 δ ((res δ x).bind fun d => slcD d l h)
  | .isi a _ ks, δ => (rd a (den a δ) δ).bind fun x δ => opt1 δ ((res δ x).bind fun d => (kisD d ks).map fun b => .fz (.bl b))
  | .and a b, δ => ((den a δ).bind isB).bind fun c δ => if c then den b δ else .ok (.fz (.bl false)) δ
  | .or a b, δ => ((den a δ).bind isB).bind fun c δ => if c then .ok (.fz (.bl true)) δ else den b δ
  | .one a, δ => den a δ
  | .not a, δ => ((den a δ).bind isB).bind fun c δ => .ok (.fz (.bl (!c))) δ
  | .ife c a b, δ => ((den c δ).bind isB).bind fun c δ => if c then den a δ else den b δ
  | .chn p q a b c, δ => (rd a (den a δ) δ).bind fun x δ => (rd b (den b δ) δ).bind fun y δ => (opt1 δ ((res δ x).bind fun d => (res δ y).bind (k2 p d))).bind fun r δ => (isB r δ).bind fun k δ =>
      if k then (rd c (den c δ) δ).bind fun z δ => opt1 δ ((res δ y).bind fun d => (res δ z).bind (k2 q d)) else .ok (.fz (.bl false)) δ
  | .fld a c f, δ => (rd a (den a δ) δ).bind fun x δ => match res δ x with
    | some (.obj c' ds) => if c' = c then opt1 δ ((ds[f]?).map .fz) else .bad
    | _ => .bad
  | .pop i, δ => match slotD δ i with
    | some (m, .lst ds) => if m = .ow ∨ m = .io then match ds.getLast? with
      | some d => .ok (.fz d) (δ.set i (some (m, .lst ds.dropLast)))
      | none => .bad else .bad
    | _ => .bad
  | .call f as, δ => (denAs as δ).bind fun xs δ => callD f xs δ
  | .callk f as kas, δ => (denAs as δ).bind fun xs δ => (denAs kas δ).bind fun ys δ => callD f (xs ++ ys) δ
  | .comp tg src cond elt, δ => noEx ((denSrc src δ).bind fun p δ1 => if freeT tg δ1 then
      (compL tg (denC cond) (fun δ => (den elt δ).bind fun r δ => (frz r δ).bind fun x δ => match res δ x with | some d => .ok d δ | none => .bad) p.1 [] (wipeD tg (lockD δ1 p.2))).bind fun ds δ2 => .ok (.fr (.lst ds)) (openD δ1 (backW tg δ1 δ2) p.2)
      else .bad)
def denEs : Es → DSt → Out (List D)
  | .nil, δ => .ok [] δ
  | .cons e es, δ => (den e δ).bind fun r δ => (frz r δ).bind fun x δ => match x with
    | .val d => (denEs es δ).bind fun ds δ => .ok (d :: ds) δ
    | .pk _ => .bad
def denO : OE → DSt → Out (Option Int)
  | .none, δ => .ok none δ
  | .some e, δ => (den e δ).bind isI
def denC : OE → Option (DSt → Out Bool)
  | .none => none
  | .some e => some fun δ => (den e δ).bind isB
def denAs : As → DSt → Out (List AR)
  | .nil, δ => .ok [] δ
  | .ev e as, δ => (den e δ).bind fun r δ => (frz r δ).bind fun x δ => (denAs as δ).bind fun xs δ => .ok (x :: xs) δ
  | .pk i as, δ => match slotD δ i with
    | some _ => (denAs as δ).bind fun xs δ => .ok (.pk i :: xs) δ
    | none => .bad
def denSrc : Src → DSt → Out (List D × Option Nat)
  | .seq e, δ => (rd e (den e δ) δ).bind fun x δ => match (res δ x).bind seqD with
    | some ds => .ok (ds, lockI δ x) δ
    | none => .bad
  | .rng1 e, δ => (den e δ).bind fun r δ => match r with
    | .fz (.int j) => if range62 j then .ok (intsD 0 j.toNat, none) δ else .bad
    | _ => .bad
  | .rng2 a b, δ => (den a δ).bind fun r δ => (den b δ).bind fun q δ => match r, q with
    | .fz (.int i), .fz (.int j) => if range62 i && range62 j then .ok (intsD i (j - i).toNat, none) δ else .bad
    | _, _ => .bad
  | .zip a b, δ => (den a δ).bind fun r δ => (frz r δ).bind fun x δ => (den b δ).bind fun q δ => (frz q δ).bind fun y δ => match (res δ x).bind seqD, (res δ y).bind seqD with
    | some xs, some ys => .ok (zipD xs ys, none) δ
    | _, _ => .bad
end

/-! ### statements -/
inductive OutS where
  | nx (δ : DSt) | rt (r : R) (δ : DSt) | bk (δ : DSt) | ct (δ : DSt) | ex (x : Ex) (δ : DSt) | bad
mutual
inductive St1 where
  | set (i : Nat) (e : E)
  | unp (is : List Nat) (e : E)
  | unps (is : List Nat) (k : Nat) (e : E)
  | app (i : Nat) (e : E)
  | seti (i : Nat) (k e : E)
  | setf (i c f : Nat) (e : E)
  | expr (e : E)
  | ife (c : E) (a b : Sts)
  | for_ (tg : List Nat) (src : Src) (body : Sts)
  | while_ (c : E) (body : Sts)
  | ret (e : E)
  | retv (i : Nat)
  | retn
  | brk | cont | pass
inductive Sts where
  | nil | cons (s : St1) (r : Sts)
end
def Out.s {α : Type} (o : Out α) (f : α → DSt → OutS) : OutS := match o with
  | .ok a δ => f a δ
  | .ex x δ => .ex x δ
  | .bad => .bad
/-- a slot given anew -/
def setS (i : Nat) (r : R) (δ : DSt) : OutS := match r with
  | .fz d => .nx (δ.set i (some (.fz, d)))
  | .fr d => .nx (δ.set i (some (.ow, d)))
def OutS.map (f : DSt → DSt) : OutS → OutS
  | .nx δ => .nx (f δ)
  | .rt r δ => .rt r (f δ)
  | .bk δ => .bk (f δ)
  | .ct δ => .ct (f δ)
  | .ex x δ => .ex x (f δ)
  | .bad => .bad
def forL (tg : List Nat) (body : DSt → OutS) : List D → DSt → OutS
  | [], δ => .nx δ
  | x :: xs, δ => match bindT tg x δ with
    | none => .bad
    | some δ => match body δ with
      | .nx δ => forL tg body xs δ
      | .ct δ => forL tg body xs δ
      | .bk δ => .nx δ
      | o => o
def whileL (c : DSt → Out Bool) (body : DSt → OutS) : Nat → DSt → OutS
  | 0, _ => .bad
  | n + 1, δ => (c δ).s fun b δ => if b then match body δ with
      | .nx δ => whileL c body n δ
      | .ct δ => whileL c body n δ
      | .bk δ => .nx δ
      | o => o
    else .nx δ
/-- a starred target takes what is left -/
def starD (k n : Nat) (ds : List D) : List D := ds.take k ++ (.lst ((ds.drop k).take (ds.length + 1 - n)) :: (ds.drop k).drop (ds.length + 1 - n))
/-- the turns that a while may take -/
def FUEL : Nat := 1000000000000
mutual
def denS : St1 → DSt → OutS
  | .set i e, δ => (den e δ).s (setS i)
  | .unp is e, δ => (den e δ).s fun r δ => match r with
    | .fz d => match bindT is d δ with
      | some δ => .nx δ
      | none => .bad
    | _ => .bad
  | .unps is k e, δ => (den e δ).s fun r δ => (frz r δ).s fun x δ => match res δ x with
    | some (.lst ds) => if is.length ≤ ds.length + 1 ∧ k < is.length ∧ ds.length ≤ 16384 then .nx ((is.zip (starD k is.length ds)).foldl (fun δ p => δ.set p.1 (some (.fz, p.2))) δ) else .bad
    | _ => .bad
  | .app i e, δ => match slotD δ i with
    | some (_, .lst _) => (den e δ).s fun r δ => (frz r δ).s fun x δ => match x, slotD δ i with
      | .val d, some (m, .lst ds) => if (m = .ow ∨ m = .io) ∧ ds.length < sizeL then .nx (δ.set i (some (m, .lst (ds ++ [d])))) else .bad
      | _, _ => .bad
    | _ => .bad
  | .seti i k e, δ => (den e δ).s fun r δ => (frz r δ).s fun x δ => match slotD δ i with
    | some (_, .lst _) => (den k δ).s fun q δ => match x, q, slotD δ i with
      | .val d, .fz (.int j), some (m, .lst ds) => if m = .ow ∨ m = .io then match ixD ds.length j with
        | some n => .nx (δ.set i (some (m, .lst (ds.set n d))))
        | none => .bad else .bad
      | _, _, _ => .bad
    | _ => .bad
  | .setf i c f e, δ => (den e δ).s fun r δ => (frz r δ).s fun x δ => match x, slotD δ i with
    | .val d, some (m, .obj c' ds) => if (m = .ow ∨ m = .io) ∧ c' = c ∧ f ≤ ds.length then .nx (δ.set i (some (m, .obj c' (if f < ds.length then ds.set f d else ds ++ [d])))) else .bad
    | _, _ => .bad
  | .expr e, δ => (den e δ).s fun _ δ => .nx δ
  | .ife c a b, δ => ((den c δ).bind isB).s fun k δ => if k then denSs a δ else denSs b δ
  | .for_ tg src body, δ => (denSrc src δ).s fun p δ1 => (forL tg (fun δ => denSs body δ) p.1 (lockD δ1 p.2)).map fun δ2 => openD δ1 δ2 p.2
  | .while_ c body, δ => whileL (fun δ => (den c δ).bind isB) (fun δ => denSs body δ) FUEL δ
  | .ret e, δ => (den e δ).s fun r δ => .rt r δ
  | .retv i, δ => match slotD δ i with
    | some (.fz, d) => .rt (.fz d) δ
    | some (.ow, d) => .rt (.fr d) (δ.set i none)
    | _ => .bad
  | .retn, δ => .rt (.fz .non) δ
  | .brk, δ => .bk δ
  | .cont, δ => .ct δ
  | .pass, δ => .nx δ
def denSs : Sts → DSt → OutS
  | .nil, δ => .nx δ
  | .cons s r, δ => match denS s δ with
    | .nx δ => denSs r δ
    | o => o
end

/-! ### defs -/
/-- what has become of the arguments -/
def outsOf (δ : DSt) : List (Md × D) → Nat → Option (List D)
  | [], _ => some []
  | (.fz, d) :: r, i => (outsOf δ r (i + 1)).map (d :: ·)
  | (_, _) :: r, i => match slotD δ i, outsOf δ r (i + 1) with
    | some (.io, d), some ds => some (d :: ds)
    | _, _ => none
/-- a def whose last parameters are not given -/
def dfl (sem : List (Md × D) → OutF) (ds : List D) (xs : List (Md × D)) : OutF := match sem (xs ++ ds.map fun d => (.fz, d)) with
  | .ok r outs => if outs.length = xs.length + ds.length then .ok r (outs.take xs.length) else .bad
  | .ex x outs => if outs.length = xs.length + ds.length then .ex x (outs.take xs.length) else .bad
  | .bad => .bad
/-- a def of np parameters and n names in all -/
def runF (np n : Nat) (body : Sts) (xs : List (Md × D)) : OutF :=
  if xs.length = np then match denSs body (xs.map some ++ List.replicate (n - np) none) with
    | .nx δ => match outsOf δ xs 0 with
      | some outs => .ok (.fz .non) outs
      | none => .bad
    | .rt r δ => match outsOf δ xs 0 with
      | some outs => .ok r outs
      | none => .bad
    | .ex x δ => match outsOf δ xs 0 with
      | some outs => .ex x outs
      | none => .bad
    | _ => .bad
  else .bad
end Z

set_option Elab.async false
set_option linter.all false
/-! ZSt: what it means that slots (data) and the abstract heap agree; a step from one such state to a later one. -/
namespace Z
open PySem L2

/-- an object of ours, at a: nobody else holds it -/
inductive Own (T : Tab) (S H : Hp) : Addr → D → Prop
  | lst {a : Addr} {vs : List V} {ds : List D} : S a = none → H a = some (.lst vs) → RepL T S vs ds → Own T S H a (.lst ds)
  | dK {a : Addr} {ks : List (Key × V)} {ds : List D} : S a = none → H a = some (.dK ks) → RepL T S (ks.map (·.2)) ds → Own T S H a (.dct ((ks.map fun p => keyD p.1).zip ds))
  | dT {a : Addr} {ks : List (List Key × V)} {ds : List D} : S a = none → H a = some (.dT ks) → RepL T S (ks.map (·.2)) ds → Own T S H a (.dct ((ks.map fun p => D.tup (p.1.map keyD)).zip ds))
  | obj {a : Addr} {c : Nat} {vs : List V} {ds : List D} : S a = none → Ins T H a c vs → RepL T S vs ds → Own T S H a (.obj c ds)

def OwnAt (δ : DSt) (σ : St) (i : Nat) (a : Addr) : Prop := ∃ m d, δ[i]? = some (some (m, d)) ∧ m ≠ .fz ∧ σ[i]? = some (some (.ref a))
def Owned (δ : DSt) (σ : St) (a : Addr) : Prop := ∃ i, OwnAt δ σ i a
/-- ours, and may be changed -/
def MutA (δ : DSt) (σ : St) (a : Addr) : Prop := ∃ (i : Nat) (m : Md) (d : D), δ[i]? = some (some (m, d)) ∧ (m = .ow ∨ m = .io) ∧ σ[i]? = some (some (.ref a))
/-- ours, and may be given away -/
def MovA (δ : DSt) (σ : St) (a : Addr) : Prop := ∃ (i : Nat) (d : D), δ[i]? = some (some (.ow, d)) ∧ σ[i]? = some (some (.ref a))
theorem MovA.mut {δ : DSt} {σ : St} {a : Addr} (h : MovA δ σ a) : MutA δ σ a := let ⟨i, d, e, s⟩ := h; ⟨i, .ow, d, e, .inl rfl, s⟩
theorem MutA.owned {δ : DSt} {σ : St} {a : Addr} (h : MutA δ σ a) : Owned δ σ a := let ⟨i, m, d, e, q, s⟩ := h; ⟨i, m, d, e, by rcases q with rfl | rfl <;> decide, s⟩

structure Good (T : Tab) (S H : Hp) (δ : DSt) (σ : St) : Prop where
  sub : Sub S H
  len : δ.length = σ.length
  slot : ∀ (i : Nat) (m : Md) (d : D), δ[i]? = some (some (m, d)) → ∃ v, σ[i]? = some (some v) ∧ (m = .fz → Rep T S v d) ∧ (m ≠ .fz → ∃ a, v = .ref a ∧ Own T S H a d)
  inj : ∀ i j a, OwnAt δ σ i a → OwnAt δ σ j a → i = j
  nown : ∀ b c, S b ≠ some (.own c)

/-- an argument that we may change, a thing that is walked: still there in its slot -/
def Kp (δ : DSt) (σ : St) (δ' : DSt) (σ' : St) : Prop := ∀ (i : Nat) (m : Md) (d : D), δ'[i]? = some (some (m, d)) → (m = .io ∨ m = .lk) → σ'[i]? = σ[i]? ∧ ∃ d0, δ[i]? = some (some (m, d0)) ∧ (m = .lk → d0 = d)
theorem Kp.refl (δ : DSt) (σ : St) : Kp δ σ δ σ := fun _ _ d e _ => ⟨rfl, d, e, fun _ => rfl⟩
theorem Kp.trans {δ : DSt} {σ : St} {δ1 : DSt} {σ1 : St} {δ2 : DSt} {σ2 : St} (a : Kp δ σ δ1 σ1) (b : Kp δ1 σ1 δ2 σ2) : Kp δ σ δ2 σ2 := fun i m d e h => by
  obtain ⟨e1, d1, e2, e3⟩ := b i m d e h
  obtain ⟨f1, d0, f2, f3⟩ := a i m d1 e2 h
  exact ⟨e1.trans f1, d0, f2, fun z => (f3 z).trans (e3 z)⟩
/-- from (S, H, δ, σ) to a later state -/
structure Stq (S H : Hp) (δ : DSt) (σ : St) (S' H' : Hp) (δ' : DSt) (σ' : St) : Prop where
  ext : Sub S S'
  keep : ∀ b o, H b = some o → ¬ MutA δ σ b → (∀ c, o = .own c → ¬ MutA δ σ c ∧ H c ≠ none) → H' b = some o
  new : ∀ b o, S' b = some o → S b = some o ∨ ((H b = none ∨ MovA δ σ b ∨ o = .xd []) ∧ ∀ c, o ≠ .own c)
  mu : ∀ b, MutA δ' σ' b → MutA δ σ b ∨ H b = none
  mov : ∀ b, MovA δ' σ' b → MovA δ σ b ∨ H b = none
  dom : ∀ b, H' b = none → H b = none
structure Stp (S H : Hp) (δ : DSt) (σ : St) (S' H' : Hp) (δ' : DSt) (σ' : St) : Prop extends Stq S H δ σ S' H' δ' σ' where
  kp : Kp δ σ δ' σ'

theorem Stp.refl (S H : Hp) (δ : DSt) (σ : St) : Stp S H δ σ S H δ σ :=
  ⟨⟨.refl S, fun _ _ e _ _ => e, fun _ _ e => .inl e, fun _ h => .inl h, fun _ h => .inl h, fun _ e => e⟩, .refl δ σ⟩
theorem Stq.trans {S H : Hp} {δ : DSt} {σ : St} {S1 H1 : Hp} {δ1 : DSt} {σ1 : St} {S2 H2 : Hp} {δ2 : DSt} {σ2 : St} (a : Stq S H δ σ S1 H1 δ1 σ1) (b : Stq S1 H1 δ1 σ1 S2 H2 δ2 σ2) : Stq S H δ σ S2 H2 δ2 σ2 where
  ext := a.ext.trans b.ext
  keep := fun c o e n k => b.keep c o (a.keep c o e n k) (fun m => by
    rcases a.mu c m with m | m
    · exact n m
    · rw [m] at e; cases e) fun x q => ⟨fun m => by
    rcases a.mu x m with m | m
    · exact (k x q).1 m
    · exact (k x q).2 m, fun z => (k x q).2 (a.dom x z)⟩
  new := fun c o e => by
    rcases b.new c o e with q | ⟨q, z⟩
    · exact a.new c o q
    · refine .inr ⟨?_, z⟩
      rcases q with q | q | q
      · exact .inl (a.dom c q)
      · rcases a.mov c q with q | q
        · exact .inr (.inl q)
        · exact .inl q
      · exact .inr (.inr q)
  mu := fun c m => by
    rcases b.mu c m with m | m
    · exact a.mu c m
    · exact .inr (a.dom c m)
  mov := fun c m => by
    rcases b.mov c m with m | m
    · exact a.mov c m
    · exact .inr (a.dom c m)
  dom := fun c e => a.dom c (b.dom c e)
theorem Stp.trans {S H : Hp} {δ : DSt} {σ : St} {S1 H1 : Hp} {δ1 : DSt} {σ1 : St} {S2 H2 : Hp} {δ2 : DSt} {σ2 : St} (a : Stp S H δ σ S1 H1 δ1 σ1) (b : Stp S1 H1 δ1 σ1 S2 H2 δ2 σ2) : Stp S H δ σ S2 H2 δ2 σ2 :=
  ⟨a.toStq.trans b.toStq, a.kp.trans b.kp⟩

/-- nothing of the slots changes: new objects alone are made; H at a tracked place stays, S gets new places alone -/
structure Grow (S H S' H' : Hp) : Prop where
  ext : Sub S S'
  keep : Sub H H'
  new : ∀ b o, S' b = some o → S b = some o ∨ ((H b = none ∨ o = .xd []) ∧ ∀ c, o ≠ .own c)
  sub : Sub S' H'
theorem Grow.refl {S H : Hp} (h : Sub S H) : Grow S H S H := ⟨.refl S, .refl H, fun _ _ e => .inl e, h⟩
theorem none_of_sub {H H' : Hp} (h : Sub H H') {b : Addr} (e : H' b = none) : H b = none := by
  cases q : H b with
  | none => rfl
  | some o => rw [h b o q] at e; cases e
theorem Ins.there {T : Tab} {H : Hp} {a : Addr} {c : Nat} {vs : List V} (h : Ins T H a c vs) : ∃ o, H a = some o ∧ o ≠ .xd [] ∧ ∀ b, o ≠ .own b := by
  cases h with
  | dict _ _ h => exact ⟨_, h, by simp, by simp⟩
  | slot _ _ h _ =>
    rcases h with ⟨h, _⟩ | ⟨h, _⟩
    · exact ⟨_, h, by simp, by simp⟩
    · exact ⟨_, h, SlX.slO_not, fun b z => by unfold SlX.SlO at z; cases z⟩
theorem Own.there {T : Tab} {S H : Hp} {a : Addr} {d : D} (h : Own T S H a d) : S a = none ∧ ∃ o, H a = some o ∧ o ≠ .xd [] ∧ ∀ b, o ≠ .own b := by
  cases h with
  | lst s h _ => exact ⟨s, _, h, by simp, by simp⟩
  | dK s h _ => exact ⟨s, _, h, by simp, by simp⟩
  | dT s h _ => exact ⟨s, _, h, by simp, by simp⟩
  | obj s h _ => exact ⟨s, h.there⟩
/-- an object of ours is kept -/
theorem Own.at_ {T : Tab} {S H S' H' : Hp} {a : Addr} {d : D} (h : Own T S H a d) (hs : S' a = none) (ext : Sub S S') (ha : ∀ o, H a = some o → H' a = some o) (hd : ∀ b, (H b = some (.xd []) ∨ H b = some (.own a)) → H' b = H b) : Own T S' H' a d := by
  cases h with
  | lst _ h2 h3 => exact .lst hs (ha _ h2) (h3.sub ext)
  | dK _ h2 h3 => exact .dK hs (ha _ h2) (h3.sub ext)
  | dT _ h2 h3 => exact .dT hs (ha _ h2) (h3.sub ext)
  | obj _ h2 h3 =>
    refine .obj hs ?_ (h3.sub ext)
    cases h2 with
    | dict e1 e2 e3 => exact .dict e1 e2 (ha _ e3)
    | @slot C dx _ _ e1 e2 e3 e4 =>
      refine .slot (dx := dx) e1 e2 ?_ e4
      rcases e3 with ⟨x, y, z⟩ | ⟨x, y⟩
      · exact .inl ⟨ha _ x, y, (hd _ (.inr z)).trans z⟩
      · exact .inr ⟨ha _ x, (hd _ (.inl y)).trans y⟩
theorem Own.grow {T : Tab} {S H S' H' : Hp} (g : Grow S H S' H') {a : Addr} {d : D} (h : Own T S H a d) : Own T S' H' a d := by
  obtain ⟨h1, o, h2, h3, h4⟩ := h.there
  refine h.at_ ?_ g.ext (fun o e => g.keep _ _ e) fun b e => ?_
  · cases q : S' a with
    | none => rfl
    | some u =>
      have e1 := g.sub a u q
      rw [g.keep _ _ h2] at e1; cases e1
      rcases g.new a _ q with z | ⟨z | z, _⟩
      · rw [h1] at z; cases z
      · rw [h2] at z; cases z
      · exact absurd z h3
  · rcases e with e | e <;> rw [e, g.keep _ _ e]
theorem Good.grow {T : Tab} {S H S' H' : Hp} {δ : DSt} {σ : St} (G : Good T S H δ σ) (g : Grow S H S' H') : Good T S' H' δ σ :=
  ⟨g.sub, G.len, fun i m d e => let ⟨v, e1, e2, e3⟩ := G.slot i m d e; ⟨v, e1, fun q => (e2 q).sub g.ext, fun q => let ⟨a, x, y⟩ := e3 q; ⟨a, x, y.grow g⟩⟩, G.inj, fun b c e => by
    rcases g.new b _ e with z | ⟨_, z⟩
    · exact G.nown b c z
    · exact z c rfl⟩
theorem Grow.stp {S H S' H' : Hp} (g : Grow S H S' H') (δ : DSt) (σ : St) : Stp S H δ σ S' H' δ σ :=
  ⟨⟨g.ext, fun b o e _ _ => g.keep b o e, fun b o e => by
    rcases g.new b o e with z | ⟨z, k⟩
    · exact .inl z
    · exact .inr ⟨by rcases z with z | z; exact .inl z; exact .inr (.inr z), k⟩, fun _ h => .inl h, fun _ h => .inl h, fun b e => none_of_sub g.keep e⟩, .refl δ σ⟩
theorem Grow.trans {S H S1 H1 S2 H2 : Hp} (a : Grow S H S1 H1) (b : Grow S1 H1 S2 H2) : Grow S H S2 H2 :=
  ⟨a.ext.trans b.ext, a.keep.trans b.keep, fun c o e => by
    rcases b.new c o e with q | ⟨q, k⟩
    · exact a.new c o q
    · refine .inr ⟨?_, k⟩
      rcases q with q | q
      · exact .inl (none_of_sub a.keep q)
      · exact .inr q, b.sub⟩
/-- a new object laid, that stays as it is -/
theorem Grow.laid {S H : Hp} {p : Addr} {o : HO} (h : Sub S H) (hp : H p = none) (ho : ∀ c, o ≠ .own c := by simp) : Grow S H (upd S p o) (upd H p o) :=
  ⟨fun b u e => by rw [upd_ne (ne_of_none (h b u e) hp)]; exact e, fun b u e => by rw [upd_ne (ne_of_none e hp)]; exact e, fun b u e => by
    by_cases hb : b = p
    · subst hb; rw [upd_same] at e; cases e; exact .inr ⟨.inl hp, ho⟩
    · rw [upd_ne hb] at e; exact .inl e, fun b u e => by
    by_cases hb : b = p
    · subst hb; rw [upd_same] at *; exact e
    · rw [upd_ne hb] at *; exact h b u e⟩
/-- a new object laid, ours -/
theorem Grow.mine {S H : Hp} {p : Addr} {o : HO} (h : Sub S H) (hp : H p = none) : Grow S H S (upd H p o) :=
  ⟨.refl S, fun b u e => by rw [upd_ne (ne_of_none e hp)]; exact e, fun b u e => .inl e, fun b u e => by rw [upd_ne (ne_of_none (h b u e) hp)]; exact h b u e⟩
theorem snone {S H : Hp} (h : Sub S H) {p : Addr} (hp : H p = none) : S p = none := none_of_sub h hp
/-- an object of ours is declared to stay as it is -/
theorem freeze_sub {S H : Hp} {p : Addr} {o : HO} (h : Sub S H) (e : H p = some o) : Sub (upd S p o) H := fun b u q => by
  by_cases hb : b = p
  · subst hb; rw [upd_same] at q; cases q; exact e
  · rw [upd_ne hb] at q; exact h b u q
theorem sub_upd {S : Hp} {p : Addr} {o : HO} (h : S p = none ∨ S p = some o) : Sub S (upd S p o) := fun b u e => by
  by_cases hb : b = p
  · subst hb
    rcases h with h | h
    · rw [h] at e; cases e
    · rw [h] at e; cases e; exact upd_same
  · rw [upd_ne hb]; exact e

/-! ### results -/
/-- r stands at v; a new object was not there at H0, or was ours at (δ0, σ0) to give away -/
def ResOk (T : Tab) (H0 : Hp) (δ0 : DSt) (S H : Hp) (δ : DSt) (σ : St) (v : V) : R → Prop
  | .fz d => Rep T S v d
  | .fr d => ∃ a, v = .ref a ∧ Own T S H a d ∧ ¬ Owned δ σ a ∧ (H0 a = none ∨ MovA δ0 σ a)
/-- a value that can be read as d now -/
def Rd1 (T : Tab) (S H : Hp) (v : V) (d : D) : Prop := Rep T S v d ∨ ∃ a, v = .ref a ∧ Own T S H a d
/-- a new result of a rule -/
def NewOk (T : Tab) (S H : Hp) (v : V) (H0 : Hp) : R → Prop
  | .fz d => Rep T S v d
  | .fr d => ∃ a, v = .ref a ∧ Own T S H a d ∧ H0 a = none
theorem Good.owned {T : Tab} {S H : Hp} {δ : DSt} {σ : St} (G : Good T S H δ σ) {a : Addr} (h : Owned δ σ a) : ∃ d, Own T S H a d := by
  obtain ⟨i, m, d, e1, e2, e3⟩ := h
  obtain ⟨v, f1, _, f3⟩ := G.slot i m d e1
  obtain ⟨b, rfl, f4⟩ := f3 e2
  rw [e3] at f1; cases f1
  exact ⟨d, f4⟩
theorem Good.nowned {T : Tab} {S H : Hp} {δ : DSt} {σ : St} (G : Good T S H δ σ) {a : Addr} (h : H a = none) : ¬ Owned δ σ a := fun o => by
  obtain ⟨d, q⟩ := G.owned o
  obtain ⟨_, u, q, _⟩ := q.there
  rw [h] at q; cases q
theorem NewOk.res {T : Tab} {S H S' H' : Hp} {δ : DSt} {σ : St} {v : V} {r : R} (G : Good T S H δ σ) (h : NewOk T S' H' v H r) : ResOk T H δ S' H' δ σ v r := by
  cases r with
  | fz d => exact h
  | fr d => obtain ⟨a, h1, h2, h3⟩ := h; exact ⟨a, h1, h2, G.nowned h3, .inl h3⟩
/-- seen from an earlier state -/
theorem ResOk.back {T : Tab} {S H : Hp} {δ : DSt} {σ : St} {S1 H1 : Hp} {δ1 : DSt} {S2 H2 : Hp} {δ2 : DSt} {v : V} {r : R} (s : Stp S H δ σ S1 H1 δ1 σ) (h : ResOk T H1 δ1 S2 H2 δ2 σ v r) : ResOk T H δ S2 H2 δ2 σ v r := by
  cases r with
  | fz d => exact h
  | fr d =>
    obtain ⟨a, h1, h2, h3, h4⟩ := h
    refine ⟨a, h1, h2, h3, ?_⟩
    rcases h4 with h4 | h4
    · exact .inl (s.dom a h4)
    · exact (s.mov a h4).symm
theorem Good.rd {T : Tab} {S H : Hp} {δ : DSt} {σ : St} (G : Good T S H δ σ) {i : Nat} {m : Md} {d : D} (e : δ[i]? = some (some (m, d))) : ∃ v, σ[i]? = some (some v) ∧ Rd1 T S H v d := by
  obtain ⟨v, e1, e2, e3⟩ := G.slot i m d e
  refine ⟨v, e1, ?_⟩
  by_cases hm : m = .fz
  · exact .inl (e2 hm)
  · exact .inr (e3 hm)

/-- S with an object of ours added: what stays -/
theorem Good.frz {T : Tab} {S S' H : Hp} {δ : DSt} {σ : St} {a : Addr} (G : Good T S H δ σ) (hn : ¬ Owned δ σ a) (h1 : Sub S S') (h2 : Sub S' H) (h3 : ∀ b o, S' b = some o → S b = some o ∨ ((b = a ∨ o = .xd []) ∧ ∀ c, o ≠ .own c)) : Good T S' H δ σ := by
  refine ⟨h2, G.len, fun i m d' e => ?_, G.inj, fun b c e => ?_⟩
  · obtain ⟨v, e1, e2, e3⟩ := G.slot i m d' e
    refine ⟨v, e1, fun q => (e2 q).sub h1, fun q => ?_⟩
    obtain ⟨b, rfl, o⟩ := e3 q
    refine ⟨b, rfl, o.at_ ?_ h1 (fun _ z => z) fun _ _ => rfl⟩
    obtain ⟨o1, u, o2, o3, _⟩ := o.there
    cases w : S' b with
    | none => rfl
    | some x =>
      have := h2 b x w
      rw [o2] at this; cases this
      rcases h3 b _ w with z | ⟨z | z, _⟩
      · rw [o1] at z; cases z
      · exact absurd ⟨i, m, d', e, q, by rw [← z]; exact e1⟩ hn
      · exact absurd z o3
  · rcases h3 b _ e with z | ⟨_, z⟩
    · exact G.nown b c z
    · exact z c rfl
/-- the object is declared to stay as it is -/
theorem Own.freeze {T : Tab} {S H : Hp} {a : Addr} {d : D} (h : Own T S H a d) (hs : Sub S H) (hg : givable d = true) : ∃ S', Sub S S' ∧ Sub S' H ∧ Rep T S' (.ref a) d ∧ ∀ b o, S' b = some o → S b = some o ∨ ((b = a ∨ o = .xd []) ∧ ∀ c, o ≠ .own c) := by
  have up : ∀ {o : HO}, (∀ c, o ≠ .own c) → ∀ b u, upd S a o b = some u → S b = some u ∨ ((b = a ∨ u = .xd []) ∧ ∀ c, u ≠ .own c) := fun {o} ho b u e => by
    by_cases hb : b = a
    · subst hb; rw [upd_same] at e; cases e; exact .inr ⟨.inl rfl, ho⟩
    · rw [upd_ne hb] at e; exact .inl e
  cases h with
  | @lst vs _ h1 h2 h3 =>
    have z := sub_upd (o := .lst vs) (Or.inl h1)
    exact ⟨_, z, freeze_sub hs h2, .lst upd_same (h3.sub z), up (by simp)⟩
  | @dK ks _ h1 h2 h3 =>
    have z := sub_upd (o := .dK ks) (Or.inl h1)
    exact ⟨_, z, freeze_sub hs h2, .dK upd_same (h3.sub z), up (by simp)⟩
  | @dT ks _ h1 h2 h3 =>
    have z := sub_upd (o := .dT ks) (Or.inl h1)
    exact ⟨_, z, freeze_sub hs h2, .dT upd_same (h3.sub z), up (by simp)⟩
  | @obj c vs ds h1 h2 h3 =>
    cases h2 with
    | @dict C dx ns e1 e2 e3 =>
      have z := sub_upd (o := .ins C dx (ns.zip vs)) (Or.inl h1)
      exact ⟨_, z, freeze_sub hs e3, .obj (.dict e1 e2 upd_same) (h3.sub z), up (by simp)⟩
    | @slot C dx ss sl e1 e2 e3 e4 =>
      rcases e3 with ⟨x, y, z⟩ | ⟨x, y⟩
      · subst y
        cases ds with
        | nil => cases hg
        | cons d0 dr =>
          cases h3 with
          | cons r0 rr => obtain ⟨_, _, q⟩ := e4 0 _ rfl; simp at q
      · have hx : S dx = none ∨ S dx = some (.xd []) := by
          cases q : S dx with
          | none => exact .inl rfl
          | some u => rw [hs _ _ q] at y; cases y; exact .inr rfl
        have nad : a ≠ dx := fun q => by rw [q, y] at x; exact SlX.slO_not (Option.some.inj x).symm
        have s1 := sub_upd hx
        have s2 : Sub (upd S dx (.xd [])) H := freeze_sub hs y
        have z := sub_upd (S := upd S dx (.xd [])) (p := a) (o := SlX.SlO a C dx sl) (Or.inl (by rw [upd_ne nad]; exact h1))
        refine ⟨_, s1.trans z, freeze_sub s2 x, .obj (.slot (dx := dx) e1 e2 (.inr ⟨upd_same, by rw [upd_ne (Ne.symm nad), upd_same]⟩) e4) (h3.sub (s1.trans z)), fun b u e => ?_⟩
        by_cases hb : b = a
        · subst hb; rw [upd_same] at e; cases e; exact .inr ⟨.inl rfl, fun b z => by unfold SlX.SlO at z; cases z⟩
        · rw [upd_ne hb] at e
          by_cases hd : b = dx
          · subst hd; rw [upd_same] at e; cases e; exact .inr ⟨.inr rfl, by simp⟩
          · rw [upd_ne hd] at e; exact .inl e
end Z

set_option Elab.async false
set_option linter.all false
/-! ZRd: readings of the layer that follow the data. -/
namespace Z
open PySem L2

/-- an error's own dict, and its fields -/
def ExOk (T : Tab) (S : Hp) (cls : Value) (d : Option Addr) (x : Ex) : Prop :=
  ∃ C ns, T.ex x.c = some (C, ns) ∧ cls = .ref C ∧ (x.fs = [] ∨ ∃ dx vs, d = some dx ∧ ns.length = vs.length ∧ S dx = some (.xd (ns.zip vs)) ∧ RepL T S vs x.fs)
theorem ExOk.sub {T : Tab} {S S' : Hp} (h : Sub S S') {cls : Value} {d : Option Addr} {x : Ex} : ExOk T S cls d x → ExOk T S' cls d x := fun ⟨C, ns, e1, e2, e3⟩ =>
  ⟨C, ns, e1, e2, e3.imp_right fun ⟨dx, vs, a, b, c, d⟩ => ⟨dx, vs, a, b, h _ _ c, d.sub h⟩⟩

section
variable (T : Tab) (W : WX) (σ : St)
/-- what is to be shown of a computation o that starts at (S, H, δ) -/
def OutP {α : Type} (S H : Hp) (δ : DSt) (o : Out α) (k : α → DSt → Hp → Hp → Prop) : Prop := match o with
  | .ok a δ' => ∀ S' H', Good T S' H' δ' σ → Stp S H δ σ S' H' δ' σ → k a δ' S' H'
  | .ex x δ' => ∀ cls d S' H', Good T S' H' δ' σ → Stp S H δ σ S' H' δ' σ → ExOk T S' cls d x → W cls d σ H'
  | .bad => False
end
section
variable {T : Tab} {W : WX} {σ : St} {S H : Hp} {δ : DSt}
theorem OutP.mono {α : Type} {o : Out α} {k k' : α → DSt → Hp → Hp → Prop} (h : OutP T W σ S H δ o k) (hk : ∀ a δ' S' H', Good T S' H' δ' σ → Stp S H δ σ S' H' δ' σ → k a δ' S' H' → k' a δ' S' H') : OutP T W σ S H δ o k' := by
  cases o with
  | ok a δ' => exact fun S' H' G s => hk a δ' S' H' G s (h S' H' G s)
  | ex x δ' => exact h
  | bad => exact h
theorem OutP.back {α : Type} {S1 H1 : Hp} {δ1 : DSt} {o : Out α} {k : α → DSt → Hp → Hp → Prop} (s : Stp S H δ σ S1 H1 δ1 σ) (h : OutP T W σ S H δ o k) : OutP T W σ S1 H1 δ1 o k := by
  cases o with
  | ok a δ' => exact fun S' H' G s' => h S' H' G (s.trans s')
  | ex x δ' => exact fun cls d S' H' G s' e => h cls d S' H' G (s.trans s') e
  | bad => exact h
theorem OutP.bind {α β : Type} {o : Out α} {f : α → DSt → Out β} {k : β → DSt → Hp → Hp → Prop} (h : OutP T W σ S H δ (o.bind f) k) :
    OutP T W σ S H δ o fun a δ1 S1 H1 => OutP T W σ S1 H1 δ1 (f a δ1) k := by
  cases o with
  | ok a δ' => exact fun S' H' G s => OutP.back s (show OutP T W σ S H δ (f a δ') k from h)
  | ex x δ' => exact h
  | bad => exact h
theorem OutP.bindS {α β : Type} {o : Out α} {f : α → DSt → Out β} {k : β → DSt → Hp → Hp → Prop} (h : OutP T W σ S H δ (o.bind f) k) :
    OutP T W σ S H δ o fun a δ1 S1 H1 => OutP T W σ S H δ (f a δ1) k := by
  cases o with
  | ok a δ' => exact fun S' H' G s => h
  | ex x δ' => exact h
  | bad => exact h
theorem OutP.here {α : Type} {a : α} {k : α → DSt → Hp → Hp → Prop} (G : Good T S H δ σ) (h : OutP T W σ S H δ (.ok a δ) k) : k a δ S H := h S H G (.refl ..)
/-- .. behind new objects -/
theorem OutP.grow {α : Type} {a : α} {k : α → DSt → Hp → Hp → Prop} {S' H' : Hp} (G : Good T S H δ σ) (h : OutP T W σ S H δ (.ok a δ) k) (g : Grow S H S' H') : k a δ S' H' := h S' H' (G.grow g) (g.stp δ σ)

/-- an argument's value -/
def ArOk (T : Tab) (S : Hp) (σ : St) (v : V) : AR → Prop
  | .val d => Rep T S v d
  | .pk i => σ[i]? = some (some v)
theorem ArOk.sub {S' : Hp} (h : Sub S S') {v : V} {x : AR} (a : ArOk T S σ v x) : ArOk T S' σ v x := by
  cases x with
  | val d => exact Rep.sub h a
  | pk i => exact a
theorem slotD_get {i : Nat} {m : Md} {d : D} (e : slotD δ i = some (m, d)) : δ[i]? = some (some (m, d)) := by
  unfold slotD at e
  cases q : δ[i]? with
  | none => rw [q] at e; cases e
  | some x => rw [q] at e; exact congrArg some e
theorem ArOk.rd {v : V} {x : AR} {d : D} (G : Good T S H δ σ) (a : ArOk T S σ v x) (e : res δ x = some d) : Rd1 T S H v d := by
  cases x with
  | val d' => cases e; exact .inl a
  | pk i =>
    have e : (slotD δ i).map (·.2) = some d := e
    cases q : slotD δ i with
    | none => rw [q] at e; cases e
    | some p =>
      obtain ⟨m, d'⟩ := p
      rw [q] at e; cases e
      obtain ⟨v', e1, e2⟩ := G.rd (slotD_get q)
      have a : σ[i]? = some (some v) := a
      rw [a] at e1; cases e1
      exact e2

/-- a result is kept -/
theorem frz_ok {r : R} {δ1 : DSt} {S1 H1 : Hp} {k : AR → DSt → Hp → Hp → Prop} {v : V} (G : Good T S1 H1 δ1 σ) (s : Stp S H δ σ S1 H1 δ1 σ) (hr : ResOk T H δ S1 H1 δ1 σ v r)
    (h : OutP T W σ S H δ (frz r δ1) k) : ∃ (x : AR) (S2 : Hp), frz r δ1 = .ok x δ1 ∧ Good T S2 H1 δ1 σ ∧ Stp S H δ σ S2 H1 δ1 σ ∧ ArOk T S2 σ v x ∧ k x δ1 S2 H1 := by
  cases r with
  | fz d => exact ⟨.val d, S1, rfl, G, s, hr, h S1 H1 G s⟩
  | fr d =>
    obtain ⟨a, rfl, o, n, w⟩ := hr
    have ef : frz (.fr d) δ1 = if givable d = true then Out.ok (AR.val d) δ1 else Out.bad := rfl
    rw [ef] at h ⊢
    by_cases hg : givable d = true
    · rw [if_pos hg] at h ⊢
      obtain ⟨S2, x1, x2, x3, x4⟩ := o.freeze G.sub hg
      have G2 := G.frz n x1 x2 x4
      have s2 : Stp S H δ σ S2 H1 δ1 σ := ⟨⟨s.ext.trans x1, s.keep, fun b u e => by
        rcases x4 b u e with q | ⟨q | q, z⟩
        · exact s.new b u q
        · subst q
          exact .inr ⟨by rcases w with w | w; exact .inl w; exact .inr (.inl w), z⟩
        · exact .inr ⟨.inr (.inr q), z⟩, s.mu, s.mov, s.dom⟩, s.kp⟩
      exact ⟨.val d, S2, rfl, G2, s2, x3, h S2 H1 G2 s2⟩
    · rw [if_neg hg] at h
      exact h.elim
end

section
variable (T : Tab) (W : WX)
def rdE (m : E) : TE := fun σ H Q => ∃ S δ, Good T S H δ σ ∧ OutP T W σ S H δ (den m δ) fun r δ' S' H' => ∀ v, ResOk T H δ S' H' δ' σ v r → Q v H'
/-- an argument -/
def rdA (m : E) : TE := fun σ H Q => ∃ S δ, Good T S H δ σ ∧ OutP T W σ S H δ (rd m (den m δ) δ) fun x δ' S' H' => ∀ v, ArOk T S' σ v x → Q v H'
def rdT (m : E) : TT := fun σ H Q => ∃ S δ, Good T S H δ σ ∧ OutP T W σ S H δ ((den m δ).bind isB) fun b δ' S' H' => Q b H'
/-- values kept, from the left -/
def rdEs (ms : Es) : TA := fun σ H Q => ∃ S δ, Good T S H δ σ ∧ OutP T W σ S H δ (denEs ms δ) fun ds δ' S' H' => ∀ vs, RepL T S' vs ds → Q vs H'
def rdAs (ms : As) : TA := fun σ H Q => ∃ S δ, Good T S H δ σ ∧ OutP T W σ S H δ (denAs ms δ) fun xs δ' S' H' => ∀ vs, vs.length = xs.length → (∀ (i : Nat) (v : V) (x : AR), vs[i]? = some v → xs[i]? = some x → ArOk T S' σ v x) → Q vs H'
end
theorem PE.mono {X : Cx} {e : Expr} {t u : TE} (h : PE X e t) (m : ∀ σ H Q, u σ H Q → t σ H Q) : PE X e u := ⟨fun pins s σ H Q I q => h.run pins s σ H Q I (m σ H Q q)⟩
theorem PT.mono {X : Cx} {e : Expr} {t u : TT} (h : PT X e t) (m : ∀ σ H Q, u σ H Q → t σ H Q) : PT X e u := ⟨fun pins s σ H Q I q => h.run pins s σ H Q I (m σ H Q q)⟩
theorem PW.mono {X : Cx} {e : Expr} {t u : TT} (h : PW X e t) (m : ∀ σ H Q, u σ H Q → t σ H Q) : PW X e u := ⟨fun wh pins s σ H Q I q => h.run wh pins s σ H Q I (m σ H Q q)⟩
theorem PA.mono {X : Cx} {e : List Expr} {t u : TA} (h : PA X e t) (m : ∀ σ H Q, u σ H Q → t σ H Q) : PA X e u := ⟨fun pos pins s σ H Q I q => h.run pos pins s σ H Q I (m σ H Q q)⟩
theorem PS.mono {X : Cx} {e : Stmt} {t u : TS} (h : PS X e t) (m : ∀ D σ H, u D σ H → t D σ H) : PS X e u := ⟨fun pins s σ H D I q => h.run pins s σ H D I (m D σ H q)⟩
theorem PSs.mono {X : Cx} {e : List Stmt} {t u : TS} (h : PSs X e t) (m : ∀ D σ H, u D σ H → t D σ H) : PSs X e u := ⟨fun pins s σ H D I q => h.run pins s σ H D I (m D σ H q)⟩
end Z

set_option Elab.async false
set_option linter.all false
/-! ZOp: slots set, forgotten, frozen; objects of ours changed. -/
namespace Z
open PySem L2
section
variable {T : Tab} {S H : Hp} {δ : DSt} {σ : St} {i : Nat} {v : V} {d d' : D} {m : Md} {a : Addr}

theorem set_same (h : σ[i]? = some (some v)) : σ.set i (some v) = σ := by
  apply List.ext_getElem?
  intro j
  by_cases hj : i = j
  · subst hj
    obtain ⟨hl, _⟩ := List.getElem?_eq_some_iff.mp h
    rw [List.getElem?_set_self hl, h]
  · rw [List.getElem?_set_ne hj]
theorem slotD_set_self (hl : i < δ.length) (x : Sl) : slotD (δ.set i x) i = x := by
  unfold slotD
  rw [List.getElem?_set_self hl]
  rfl
theorem slotD_set_ne {j : Nat} (h : i ≠ j) (x : Sl) : slotD (δ.set i x) j = slotD δ j := by
  unfold slotD
  rw [List.getElem?_set_ne h]
theorem slotD_lt {x : Md × D} (h : slotD δ i = some x) : i < δ.length := by
  obtain ⟨m, d⟩ := x
  exact (List.getElem?_eq_some_iff.mp (slotD_get h)).1
theorem slotD_of (h : δ[i]? = some (some (m, d))) : slotD δ i = some (m, d) := by
  unfold slotD
  rw [h]
  rfl

/-- a slot is forgotten -/
theorem Good.forget (G : Good T S H δ σ) (i : Nat) : Good T S H (δ.set i none) σ := by
  have key : ∀ {j : Nat} {m : Md} {d : D}, (δ.set i none)[j]? = some (some (m, d)) → δ[j]? = some (some (m, d)) := fun {j m d} e => by
    by_cases hj : i = j
    · subst hj
      by_cases hl : i < δ.length
      · rw [List.getElem?_set_self hl] at e; cases e
      · rw [List.getElem?_eq_none_iff.mpr (by simpa using Nat.le_of_not_lt hl)] at e; cases e
    · rwa [List.getElem?_set_ne hj] at e
  exact ⟨G.sub, by simpa using G.len, fun j m d e => G.slot j m d (key e), fun j k b ⟨m1, d1, e1, q1, r1⟩ ⟨m2, d2, e2, q2, r2⟩ => G.inj j k b ⟨m1, d1, key e1, q1, r1⟩ ⟨m2, d2, key e2, q2, r2⟩, G.nown⟩
theorem owned_forget (G : Good T S H δ σ) (e : δ[i]? = some (some (m, d))) (hm : m ≠ .fz) (s : σ[i]? = some (some (.ref a))) : ¬ Owned (δ.set i none) σ a := by
  rintro ⟨j, m', d', e', q', r'⟩
  by_cases hj : i = j
  · subst hj
    rw [List.getElem?_set_self (List.getElem?_eq_some_iff.mp e).1] at e'
    cases e'
  · rw [List.getElem?_set_ne hj] at e'
    exact hj (G.inj i j a ⟨m, d, e, hm, s⟩ ⟨m', d', e', q', r'⟩)
theorem mutA_forget {b : Addr} (h : MutA (δ.set i none) σ b) : MutA δ σ b := by
  obtain ⟨j, m, d, e, q, r⟩ := h
  refine ⟨j, m, d, ?_, q, r⟩
  by_cases hj : i = j
  · subst hj
    by_cases hl : i < δ.length
    · rw [List.getElem?_set_self hl] at e; cases e
    · rw [List.getElem?_eq_none_iff.mpr (by simpa using Nat.le_of_not_lt hl)] at e; cases e
  · rwa [List.getElem?_set_ne hj] at e
/-- the slot holds a value that stays as it is -/
theorem Good.setFz (G : Good T S H δ σ) (r : Rep T S v d) : Good T S H (δ.set i (some (.fz, d))) (σ.set i (some v)) := by
  have hl : i < δ.length → i < σ.length := fun h => G.len ▸ h
  have key : ∀ {j : Nat} {m : Md} {d' : D}, (δ.set i (some (.fz, d)))[j]? = some (some (m, d')) → (i = j ∧ m = .fz ∧ d' = d ∧ i < σ.length) ∨ (i ≠ j ∧ δ[j]? = some (some (m, d'))) := fun {j m d'} e => by
    by_cases hj : i = j
    · subst hj
      by_cases hl' : i < δ.length
      · rw [List.getElem?_set_self hl'] at e
        cases e
        exact .inl ⟨rfl, rfl, rfl, hl hl'⟩
      · rw [List.getElem?_eq_none_iff.mpr (by simpa using Nat.le_of_not_lt hl')] at e; cases e
    · rw [List.getElem?_set_ne hj] at e
      exact .inr ⟨hj, e⟩
  have own : ∀ {j : Nat} {b : Addr}, OwnAt (δ.set i (some (.fz, d))) (σ.set i (some v)) j b → OwnAt δ σ j b := fun {j b} ⟨m, d', e, q, r⟩ => by
    rcases key e with ⟨_, z, _⟩ | ⟨hj, z⟩
    · exact absurd z q
    · rw [List.getElem?_set_ne hj] at r
      exact ⟨m, d', z, q, r⟩
  refine ⟨G.sub, by simpa using G.len, fun j m d' e => ?_, fun j k b x y => G.inj j k b (own x) (own y), G.nown⟩
  rcases key e with ⟨rfl, rfl, rfl, hσ⟩ | ⟨hj, z⟩
  · exact ⟨v, List.getElem?_set_self hσ, fun _ => r, fun q => absurd rfl q⟩
  · obtain ⟨v', e1, e2, e3⟩ := G.slot j m d' z
    exact ⟨v', by rw [List.getElem?_set_ne hj]; exact e1, e2, e3⟩
/-- the slot holds an object of ours -/
theorem Good.setOw (G : Good T S H δ σ) (o : Own T S H a d) (hn : ¬ Owned (δ.set i none) σ a) (hm : m ≠ .fz) : Good T S H (δ.set i (some (m, d))) (σ.set i (some (.ref a))) := by
  have hl : i < δ.length → i < σ.length := fun h => G.len ▸ h
  have key : ∀ {j : Nat} {m' : Md} {d' : D}, (δ.set i (some (m, d)))[j]? = some (some (m', d')) → (i = j ∧ m' = m ∧ d' = d ∧ i < σ.length) ∨ (i ≠ j ∧ δ[j]? = some (some (m', d'))) := fun {j m' d'} e => by
    by_cases hj : i = j
    · subst hj
      by_cases hl' : i < δ.length
      · rw [List.getElem?_set_self hl'] at e
        cases e
        exact .inl ⟨rfl, rfl, rfl, hl hl'⟩
      · rw [List.getElem?_eq_none_iff.mpr (by simpa using Nat.le_of_not_lt hl')] at e; cases e
    · rw [List.getElem?_set_ne hj] at e
      exact .inr ⟨hj, e⟩
  have own : ∀ {j : Nat} {b : Addr}, OwnAt (δ.set i (some (m, d))) (σ.set i (some (.ref a))) j b → (i = j ∧ b = a) ∨ (i ≠ j ∧ OwnAt δ σ j b ∧ OwnAt (δ.set i none) σ j b) := fun {j b} ⟨m', d', e, q, r⟩ => by
    rcases key e with ⟨z1, _, _, z2⟩ | ⟨hj, z⟩
    · subst z1
      rw [List.getElem?_set_self z2] at r
      cases r
      exact .inl ⟨rfl, rfl⟩
    · rw [List.getElem?_set_ne hj] at r
      exact .inr ⟨hj, ⟨m', d', z, q, r⟩, ⟨m', d', by rw [List.getElem?_set_ne hj]; exact z, q, r⟩⟩
  refine ⟨G.sub, by simpa using G.len, fun j m' d' e => ?_, fun j k b x y => ?_, G.nown⟩
  · rcases key e with ⟨rfl, rfl, rfl, hσ⟩ | ⟨hj, z⟩
    · exact ⟨_, List.getElem?_set_self hσ, fun q => absurd q hm, fun _ => ⟨a, rfl, o⟩⟩
    · obtain ⟨v', e1, e2, e3⟩ := G.slot j m' d' z
      exact ⟨v', by rw [List.getElem?_set_ne hj]; exact e1, e2, e3⟩
  · rcases own x with ⟨x1, x2⟩ | ⟨x0, x1, x2⟩
    · rcases own y with ⟨y1, y2⟩ | ⟨_, y1, y2⟩
      · exact x1.symm.trans y1
      · exact absurd ⟨k, by rw [← x2]; exact y2⟩ hn
    · rcases own y with ⟨y1, y2⟩ | ⟨_, y1, y2⟩
      · exact absurd ⟨j, by rw [← y2]; exact x2⟩ hn
      · exact G.inj j k b x1 y1
theorem mutA_set {b : Addr} {x : Md × D} {w : V} (h : MutA (δ.set i (some x)) (σ.set i (some w)) b) : MutA δ σ b ∨ (x.1 ≠ .fz ∧ x.1 ≠ .lk ∧ w = .ref b) := by
  obtain ⟨j, m, d, e, q, r⟩ := h
  by_cases hj : i = j
  · subst hj
    have hl : i < δ.length := by
      have := (List.getElem?_eq_some_iff.mp e).1
      simpa using this
    have hs : i < σ.length := by
      have := (List.getElem?_eq_some_iff.mp r).1
      simpa using this
    rw [List.getElem?_set_self hl] at e
    rw [List.getElem?_set_self hs] at r
    cases e
    cases r
    refine .inr ⟨?_, ?_, rfl⟩
    · rcases q with rfl | rfl <;> simp
    · rcases q with rfl | rfl <;> simp
  · rw [List.getElem?_set_ne hj] at e r
    exact .inl ⟨j, m, d, e, q, r⟩
theorem movA_set {b : Addr} {x : Md × D} {w : V} (h : MovA (δ.set i (some x)) (σ.set i (some w)) b) : MovA δ σ b ∨ (x.1 = .ow ∧ w = .ref b) := by
  obtain ⟨j, d, e, r⟩ := h
  by_cases hj : i = j
  · subst hj
    have hl : i < δ.length := by
      have := (List.getElem?_eq_some_iff.mp e).1
      simpa using this
    have hs : i < σ.length := by
      have := (List.getElem?_eq_some_iff.mp r).1
      simpa using this
    rw [List.getElem?_set_self hl] at e
    rw [List.getElem?_set_self hs] at r
    cases e
    cases r
    exact .inr ⟨rfl, rfl⟩
  · rw [List.getElem?_set_ne hj] at e r
    exact .inl ⟨j, d, e, r⟩
theorem Kp.set {δ0 : DSt} {σ0 : St} {x : Md × D} {w : V} (k : Kp δ0 σ0 δ σ) (hx : x.1 = .fz ∨ x.1 = .ow) : Kp δ0 σ0 (δ.set i (some x)) (σ.set i (some w)) := fun j m d e h => by
  by_cases hj : i = j
  · subst hj
    have hl : i < δ.length := by
      have := (List.getElem?_eq_some_iff.mp e).1
      simpa using this
    rw [List.getElem?_set_self hl] at e
    cases e
    rcases hx with z | z <;> rcases h with h | h <;> (rw [h] at z; cases z)
  · rw [List.getElem?_set_ne hj] at e ⊢
    exact k j m d e h
theorem Stp.setFz {S0 H0 : Hp} {δ0 : DSt} {σ0 : St} (s : Stp S0 H0 δ0 σ0 S H δ σ) : Stp S0 H0 δ0 σ0 S H (δ.set i (some (.fz, d))) (σ.set i (some v)) :=
  ⟨⟨s.ext, s.keep, s.new, fun b h => by
    rcases mutA_set h with h | ⟨h, _⟩
    · exact s.mu b h
    · exact absurd rfl h, fun b h => by
    rcases movA_set h with h | ⟨h, _⟩
    · exact s.mov b h
    · exact absurd h (by simp), s.dom⟩, s.kp.set (.inl rfl)⟩
theorem Stp.setOw {S0 H0 : Hp} {δ0 : DSt} {σ0 : St} (s : Stp S0 H0 δ0 σ0 S H δ σ) (h : H0 a = none ∨ MovA δ0 σ0 a) : Stp S0 H0 δ0 σ0 S H (δ.set i (some (.ow, d))) (σ.set i (some (.ref a))) :=
  ⟨⟨s.ext, s.keep, s.new, fun b k => by
    rcases mutA_set k with k | ⟨_, _, k⟩
    · exact s.mu b k
    · cases k
      rcases h with h | h
      · exact .inr h
      · exact .inl h.mut, fun b k => by
    rcases movA_set k with k | ⟨_, k⟩
    · exact s.mov b k
    · cases k
      exact h.symm, s.dom⟩, s.kp.set (.inr rfl)⟩
/-- an object of ours in a slot is frozen -/
theorem freeze_slot (G : Good T S H δ σ) (e : slotD δ i = some (.ow, d)) (hg : givable d = true) :
    ∃ S2 v, Good T S2 H (δ.set i (some (.fz, d))) σ ∧ Stp S H δ σ S2 H (δ.set i (some (.fz, d))) σ ∧ σ[i]? = some (some v) ∧ Rep T S2 v d := by
  have e1 := slotD_get e
  obtain ⟨v, q1, _, q3⟩ := G.slot i _ d e1
  obtain ⟨a, rfl, o⟩ := q3 (by decide)
  obtain ⟨S2, x1, x2, x3, x4⟩ := o.freeze G.sub hg
  have G1 := (G.forget i).frz (owned_forget G e1 (by decide) q1) x1 x2 x4
  have G2 : Good T S2 H ((δ.set i none).set i (some (.fz, d))) (σ.set i (some (.ref a))) := G1.setFz x3
  rw [List.set_set, set_same q1] at G2
  have s1 : Stp S H δ σ S2 H δ σ := ⟨⟨x1, fun b o e _ _ => e, fun b u q => by
    rcases x4 b u q with q | ⟨q | q, z⟩
    · exact .inl q
    · subst q
      exact .inr ⟨.inr (.inl ⟨i, d, e1, q1⟩), z⟩
    · exact .inr ⟨.inr (.inr q), z⟩, fun _ h => .inl h, fun _ h => .inl h, fun _ e => e⟩, .refl δ σ⟩
  refine ⟨S2, _, G2, ?_, q1, x3⟩
  have := s1.setFz (i := i) (d := d) (v := .ref a)
  rwa [set_same q1] at this
/-- an object of ours is changed: H' is H but at a (and, of an instance, its own dict) -/
theorem mutate {H' : Hp} (G : Good T S H δ σ) (e : slotD δ i = some (m, d)) (hm : m = .ow ∨ m = .io) (ho : σ[i]? = some (some (.ref a))) (ha : ∃ o, H a = some o ∧ o ≠ .xd [] ∧ ∀ b, o ≠ .own b)
    (hk : ∀ b o, H b = some o → b ≠ a → o ≠ .own a → H' b = some o) (hd : ∀ b, H' b = none → H b = none) (o : Own T S H' a d') (hs : Sub S H') :
    Good T S H' (δ.set i (some (m, d'))) σ ∧ Stp S H δ σ S H' (δ.set i (some (m, d'))) σ := by
  have e1 := slotD_get e
  have hmf : m ≠ .fz := by rcases hm with rfl | rfl <;> decide
  have nf := owned_forget G e1 hmf ho
  have G1 : Good T S H' (δ.set i none) σ := by
    have F := G.forget i
    refine ⟨hs, F.len, fun j m' d1 q => ?_, F.inj, F.nown⟩
    obtain ⟨v, q1, q2, q3⟩ := F.slot j m' d1 q
    refine ⟨v, q1, q2, fun z => ?_⟩
    obtain ⟨b, rfl, ob⟩ := q3 z
    refine ⟨b, rfl, ?_⟩
    have nb : b ≠ a := fun w => nf ⟨j, m', d1, q, z, by rw [← w]; exact q1⟩
    obtain ⟨s0, u, hu, hu1, hu2⟩ := ob.there
    obtain ⟨oa, ha1, ha2, ha3⟩ := ha
    refine ob.at_ s0 (.refl S) (fun x hx => hk b x hx nb ?_) fun c hc => ?_
    · rw [hu] at hx; cases hx; exact hu2 a
    · have nc : c ≠ a := fun w => by
        subst w
        rcases hc with hc | hc
        · rw [ha1] at hc; cases hc; exact ha2 rfl
        · rw [ha1] at hc; cases hc; exact ha3 b rfl
      rcases hc with hc | hc
      · rw [hc]; exact hk c _ hc nc (by simp)
      · rw [hc]; exact hk c _ hc nc (fun w => nb (by cases w; rfl))
  have G2 : Good T S H' ((δ.set i none).set i (some (m, d'))) (σ.set i (some (.ref a))) := G1.setOw o (by rw [List.set_set]; exact nf) hmf
  rw [List.set_set, set_same ho] at G2
  have ma : MutA δ σ a := ⟨i, m, d, e1, hm, ho⟩
  refine ⟨G2, ⟨⟨.refl S, fun b u q n k => hk b u q (fun w => n (by rw [w]; exact ma)) (fun w => (k a w).1 ma), fun b u q => .inl q, fun b h => ?_, fun b h => ?_, hd⟩, fun j m' d1 q h => ?_⟩⟩
  · have h' : MutA (δ.set i (some (m, d'))) (σ.set i (some (.ref a))) b := by rw [set_same ho]; exact h
    rcases mutA_set h' with h | ⟨_, _, h⟩
    · exact .inl h
    · cases h; exact .inl ma
  · have h' : MovA (δ.set i (some (m, d'))) (σ.set i (some (.ref a))) b := by rw [set_same ho]; exact h
    rcases movA_set h' with h | ⟨h1, h⟩
    · exact .inl h
    · cases h
      have h1 : m = .ow := h1
      subst h1
      exact .inl ⟨i, d, e1, ho⟩
  · by_cases hj : i = j
    · subst hj
      rw [List.getElem?_set_self (slotD_lt e)] at q
      cases q
      refine ⟨rfl, d, e1, fun z => ?_⟩
      subst z
      rcases hm with z | z <;> cases z
    · rw [List.getElem?_set_ne hj] at q
      exact ⟨rfl, d1, q, fun _ => rfl⟩
end
end Z

set_option Elab.async false
set_option linter.all false
set_option maxHeartbeats 1000000
/-! ZExp: the rules of expressions. -/
namespace Z
open PySem L2

/-! ### the forms of expressions that the rules ask -/
def notStar : Expr → Bool
  | .Starred _ _ => false
  | _ => true
theorem star1 {e : Expr} {es : List Expr} {env : Env} (h : notStar e = true) : starEach (e :: es) env = (false, eval e env) :: starEach es env := by
  cases e <;> first | rfl | cases h
def notSuper : Expr → Bool
  | .Call (.Name _ _) [] [] _ => false
  | _ => true
theorem base_of {e : Expr} {f : Str} {env : Env} (h : notSuper e = true) : attributeBase e f env (eval e env) = eval e env := by
  unfold attributeBase
  split
  · cases h
  · rfl
def notSet : Expr → Bool
  | .Set _ _ _ => false
  | _ => true
theorem mark_of {op : CmpOp} {e : Expr} (h : notSet e = true) : behindInMarks op e = false := by
  cases e <;> first | rfl | cases h
def notSlice : Expr → Bool
  | .Slice _ _ _ _ => false
  | _ => true
theorem plainIx_of {e : Expr} (h : notSlice e = true) : PlainIx e := by
  intro o i
  cases e <;> first | rfl | cases h

section
variable {T : Tab} {W : WX} {X : Cx}
/-! ### names, constants -/
theorem sE_var {i : Nat} {x : Str} {pos : Pos} (hN : X.N[i]? = some x) (hv : Vis X.env.scope x) (hd : (x == ("__debug__" : Str)) = false) (hcd : (x == ("__classdict__" : Str)) = false) : PE X (.Name x pos) (rdE T W (.var i)) := by
  refine PE.mono (pe_var hN hv hd hcd) fun σ H Q ⟨S, δ, G, h⟩ => ?_
  cases q : slotD δ i with
  | none => simp only [den, q] at h; exact h.elim
  | some p =>
    obtain ⟨m, d⟩ := p
    cases m with
    | fz =>
      simp only [den, q] at h
      obtain ⟨v, e1, e2, _⟩ := G.slot i _ d (slotD_get q)
      exact ⟨v, e1, OutP.here G h v (e2 rfl)⟩
    | ow =>
      simp only [den, q] at h
      by_cases hg : givable d = true
      · rw [if_pos hg] at h
        obtain ⟨S2, v, G2, s2, e1, r⟩ := freeze_slot G q hg
        exact ⟨v, e1, h S2 H G2 s2 v r⟩
      · rw [if_neg hg] at h
        exact h.elim
    | io => simp only [den, q] at h; exact h.elim
    | lk => simp only [den, q] at h; exact h.elim
/-- a name that is read alone -/
theorem sA_var {i : Nat} {x : Str} {pos : Pos} (hN : X.N[i]? = some x) (hv : Vis X.env.scope x) (hd : (x == ("__debug__" : Str)) = false) (hcd : (x == ("__classdict__" : Str)) = false) : PE X (.Name x pos) (rdA T W (.var i)) := by
  refine PE.mono (pe_var hN hv hd hcd) fun σ H Q ⟨S, δ, G, h⟩ => ?_
  cases q : slotD δ i with
  | none => simp only [rd, q] at h; exact h.elim
  | some p =>
    obtain ⟨m, d⟩ := p
    simp only [rd, q] at h
    obtain ⟨v, e1, _⟩ := G.slot i _ d (slotD_get q)
    exact ⟨v, e1, OutP.here G h v e1⟩
def isVar : E → Bool
  | .var _ => true
  | _ => false
theorem rd_of {m : E} (h : isVar m = false) (o : Out R) (δ : DSt) : rd m o δ = o.bind frz := by
  cases m <;> first | rfl | cases h
theorem sA_of {e : Expr} {m : E} (h : PE X e (rdE T W m)) (hm : isVar m = false) : PE X e (rdA T W m) := by
  refine PE.mono h fun σ H Q ⟨S, δ, G, h⟩ => ⟨S, δ, G, ?_⟩
  rw [rd_of hm] at h
  refine h.bindS.mono fun r δ' S' H' G' s h1 v hr => ?_
  obtain ⟨x, S2, e1, G2, s2, a, k⟩ := frz_ok G' s hr h1
  exact k v a
theorem sE_c {e : Expr} {m : E} {v : V} {d : D} (h : PE X e (tC v)) (hm : ∀ δ, den m δ = .ok (.fz d) δ) (hr : ∀ S, Rep T S v d) : PE X e (rdE T W m) := by
  refine PE.mono h fun σ H Q ⟨S, δ, G, h⟩ => ?_
  rw [hm] at h
  exact OutP.here G h v (hr S)

/-! ### primitives -/
def P1Ok (T : Tab) (p : D → Option R) (r : V → Hp → VK → Prop) : Prop := ∀ (S H : Hp) (v : V) (d : D) (c : R) (Q : VK), Sub S H → Rd1 T S H v d → p d = some c →
  (∀ v' S' H', Grow S H S' H' → NewOk T S' H' v' H c → Q v' H') → r v H Q
def P2Ok (T : Tab) (p : D → D → Option R) (r : R2) : Prop := ∀ (S H : Hp) (v w : V) (d e : D) (c : R) (Q : VK), Sub S H → Rd1 T S H v d → Rd1 T S H w e → p d e = some c →
  (∀ v' S' H', Grow S H S' H' → NewOk T S' H' v' H c → Q v' H') → r v w H Q
/-- the end of a primitive -/
theorem prim_end {S0 H0 : Hp} {δ0 : DSt} {σ : St} {S H : Hp} {δ : DSt} {o : Option R} {Q : VK} (G : Good T S H δ σ) (s : Stp S0 H0 δ0 σ S H δ σ)
    (h : OutP T W σ S H δ (opt1 δ o) fun r δ' S' H' => ∀ v, ResOk T H0 δ0 S' H' δ' σ v r → Q v H') : ∃ c, o = some c ∧ ∀ v' S' H', Grow S H S' H' → NewOk T S' H' v' H c → Q v' H' := by
  cases o with
  | none => exact h.elim
  | some c =>
    refine ⟨c, rfl, fun v' S' H' g n => ?_⟩
    exact h S' H' (G.grow g) (g.stp δ σ) v' ((n.res G).back s)
theorem s_op1 {e : Expr} {m : E} {p : K1} {rr : V → Hp → VK → Prop} (h : PE X e fun σ H Q => rdA T W m σ H fun v H1 => rr v H1 Q) (hp : P1Ok T (k1 p) rr) : PE X e (rdE T W (.op1 p m)) := by
  refine PE.mono h fun σ H Q ⟨S, δ, G, h⟩ => ⟨S, δ, G, ?_⟩
  simp only [den] at h
  refine h.bind.mono fun x δ1 S1 H1 G1 s1 h1 v a => ?_
  obtain ⟨c, hc, k⟩ := prim_end G1 s1 h1
  cases q : res δ1 x with
  | none => rw [q] at hc; cases hc
  | some d =>
    rw [q] at hc
    exact hp S1 H1 v d c Q G1.sub (a.rd G1 q) hc k
theorem s_op2 {e : Expr} {a b : E} {p : K2} {rr : R2} (h : PE X e fun σ H Q => rdA T W a σ H fun v H1 => rdA T W b σ H1 fun w H2 => rr v w H2 Q) (hp : P2Ok T (k2 p) rr) : PE X e (rdE T W (.op2 p a b)) := by
  refine PE.mono h fun σ H Q ⟨S, δ, G, h⟩ => ⟨S, δ, G, ?_⟩
  simp only [den] at h
  refine h.bind.mono fun x δ1 S1 H1 G1 s1 h1 v av => ⟨S1, δ1, G1, ?_⟩
  refine h1.bind.mono fun y δ2 S2 H2 G2 s2 h2 w aw => ?_
  obtain ⟨c, hc, k⟩ := prim_end G2 (s1.trans s2) h2
  cases q : res δ2 x with
  | none => rw [q] at hc; cases hc
  | some d =>
    cases q' : res δ2 y with
    | none => rw [q, q'] at hc; cases hc
    | some e' =>
      rw [q, q'] at hc
      exact hp S2 H2 v w d e' c Q G2.sub ((av.sub s2.ext).rd G2 q) (aw.rd G2 q') hc k
/-- a text's method: the text is told at once -/
def S1Ok (T : Tab) (p : List Nat → D → Option R) (r : V → List V → Hp → VK → Prop) : Prop := ∀ (S H : Hp) (s : List Nat) (w : V) (e : D) (c : R) (Q : VK), Sub S H → Rd1 T S H w e → p s e = some c →
  (∀ v' S' H', Grow S H S' H' → NewOk T S' H' v' H c → Q v' H') → r (.str (sx s)) [w] H Q
theorem Rd1.str {S H : Hp} {v : V} {s : List Nat} (h : Rd1 T S H v (.str s)) : v = .str (sx s) := by
  rcases h with h | ⟨a, _, o⟩
  · cases h; rfl
  · cases o
theorem s_sm1 {e : Expr} {a b : E} {p : M1} {r : V → List V → Hp → VK → Prop} (h : PE X e (tM1 r (rdA T W a) (rdA T W b))) (hp : S1Ok T (m1 p) r) : PE X e (rdE T W (.sm1 p a b)) := by
  refine PE.mono h fun σ H Q ⟨S, δ, G, h⟩ => ⟨S, δ, G, ?_⟩
  simp only [den] at h
  refine h.bind.mono fun x δ1 S1 H1 G1 s1 h1 v av => ?_
  cases q : res δ1 x with
  | none => rw [q] at h1; exact h1.elim
  | some d =>
    rw [q] at h1
    cases d with
    | str s =>
      obtain rfl := (av.rd G1 q).str
      refine ⟨⟨_, rfl⟩, S1, δ1, G1, ?_⟩
      have h1 : OutP T W σ S1 H1 δ1 ((rd b (den b δ1) δ1).bind fun y δ => opt1 δ ((res δ y).bind (m1 p s))) _ := h1
      refine h1.bind.mono fun y δ2 S2 H2 G2 s2 h2 w aw => ?_
      obtain ⟨c, hc, k⟩ := prim_end G2 (s1.trans s2) h2
      cases q' : res δ2 y with
      | none => rw [q'] at hc; cases hc
      | some e' =>
        rw [q'] at hc
        exact hp S2 H2 s w e' c Q G2.sub (aw.rd G2 q') hc k
    | non => exact h1.elim
    | bl _ => exact h1.elim
    | int _ => exact h1.elim
    | tup _ => exact h1.elim
    | lst _ => exact h1.elim
    | frl _ => exact h1.elim
    | dct _ => exact h1.elim
    | obj _ _ => exact h1.elim
end
end Z

set_option Elab.async false
set_option linter.all false
set_option maxHeartbeats 1000000
/-! ZPrim: the primitives, each by its rule of the layer. -/
namespace Z
open PySem L2
section
variable {T : Tab} {W : WX} {X : Cx} {S H : Hp} {v w : V}
theorem Rd1.int {i : Int} (h : Rd1 T S H v (.int i)) : v = .int i := by
  rcases h with h | ⟨a, _, o⟩
  · cases h; rfl
  · cases o
theorem Rd1.bl {b : Bool} (h : Rd1 T S H v (.bl b)) : v = .bl b := by
  rcases h with h | ⟨a, _, o⟩
  · cases h; rfl
  · cases o
theorem Rd1.non (h : Rd1 T S H v .non) : v = .non := by
  rcases h with h | ⟨a, _, o⟩
  · cases h; rfl
  · cases o
theorem Rd1.lst {ds : List D} (h : Rd1 T S H v (.lst ds)) (hs : Sub S H) : ∃ a vs, v = .ref a ∧ H a = some (.lst vs) ∧ RepL T S vs ds := by
  rcases h with h | ⟨a, e, o⟩
  · cases h with | lst h1 h2 => exact ⟨_, _, rfl, hs _ _ h1, h2⟩
  · cases o with | lst _ h2 h3 => exact ⟨_, _, e, h2, h3⟩
theorem Rd1.tup {ds : List D} (h : Rd1 T S H v (.tup ds)) : ∃ a vs, v = .ref a ∧ SqT T.K S a vs ∧ RepL T S vs ds := by
  rcases h with h | ⟨a, e, o⟩
  · cases h with | tup h1 h2 => exact ⟨_, _, rfl, h1, h2⟩
  · cases o
theorem Rd1.frl {ds : List D} (h : Rd1 T S H v (.frl ds)) : ∃ a vs, v = .ref a ∧ SqL T.K S a vs ∧ RepL T S vs ds := by
  rcases h with h | ⟨a, e, o⟩
  · cases h with | frl h1 h2 => exact ⟨_, _, rfl, h1, h2⟩
  · cases o
theorem sizeL_line {n : Nat} (h : n ≤ sizeL) : n ≤ sizeLine := by rw [sizeLine_eq]; exact h
theorem sizeL_lt {n : Nat} (h : n < sizeL) : n < sizeLine := by rw [sizeLine_eq]; exact h
theorem sx_len (s : List Nat) : (sx s).length = s.length := by simp [sx, Str.length]
/-- a scalar answer, the heap as it is -/
theorem fin_fz {Q : VK} {d : D} (hs : Sub S H) (k : ∀ v' S' H', Grow S H S' H' → NewOk T S' H' v' H (.fz d) → Q v' H') {v' : V} (r : Rep T S v' d) : Q v' H := k v' S H (.refl hs) r

/-! ### one argument -/
theorem p1_len : P1Ok T (k1 .len) fun v H Q => (∃ p ys, [v] = [.ref p] ∧ (SqL T.K H p ys ∨ SqT T.K H p ys) ∧ Q (.int ys.length) H) ∨ ∃ z, [v] = [.str z] ∧ z.length ≤ sizeLine ∧ Q (.int z.length) H := by
  intro S H v d c Q hs hr hc k
  cases d with
  | str s =>
    obtain rfl := hr.str
    simp only [k1] at hc
    split at hc
    · cases hc
      rename_i hz
      refine .inr ⟨_, rfl, by rw [sx_len]; exact sizeL_line hz, ?_⟩
      rw [sx_len]
      exact fin_fz hs k (.int _)
    · cases hc
  | tup ds =>
    obtain ⟨a, vs, rfl, h1, h2⟩ := hr.tup
    cases hc
    refine .inl ⟨a, vs, rfl, .inr (sqT_sub hs h1), ?_⟩
    rw [h2.length]
    exact fin_fz hs k (.int _)
  | lst ds =>
    obtain ⟨a, vs, rfl, h1, h2⟩ := hr.lst hs
    cases hc
    refine .inl ⟨a, vs, rfl, .inl (SqL.of h1), ?_⟩
    rw [h2.length]
    exact fin_fz hs k (.int _)
  | frl ds =>
    obtain ⟨a, vs, rfl, h1, h2⟩ := hr.frl
    cases hc
    refine .inl ⟨a, vs, rfl, .inl (sqL_sub hs h1), ?_⟩
    rw [h2.length]
    exact fin_fz hs k (.int _)
  | non => cases hc
  | bl _ => cases hc
  | int _ => cases hc
  | dct _ => cases hc
  | obj _ _ => cases hc
theorem p1_abs : P1Ok T (k1 .abs) fun v H Q => ∃ i, [v] = [.int i] ∧ Q (.int (if i < 0 then -i else i)) H := by
  intro S H v d c Q hs hr hc k
  cases d <;> first | cases hc | skip
  obtain rfl := hr.int
  exact ⟨_, rfl, fin_fz hs k (.int _)⟩
theorem p1_neg : P1Ok T (k1 .neg) (rU fun i => .int (-i)) := by
  intro S H v d c Q hs hr hc k
  cases d <;> first | cases hc | skip
  obtain rfl := hr.int
  exact ⟨_, rfl, fin_fz hs k (.int _)⟩
theorem p1_int : P1Ok T (k1 .int) fun v H Q => (∃ i, [v] = [.int i] ∧ Q (.int i) H) ∨ ∃ k, [v] = [.bl k] ∧ Q (.int (if k then 1 else 0)) H := by
  intro S H v d c Q hs hr hc k
  cases d <;> first | cases hc | skip
  · obtain rfl := hr.bl
    exact .inr ⟨_, rfl, fin_fz hs k (.int _)⟩
  · obtain rfl := hr.int
    exact .inl ⟨_, rfl, fin_fz hs k (.int _)⟩
def isNonD : D → Bool
  | .non => true
  | _ => false
theorem p1_isN : P1Ok T (k1 .isN) fun v H Q => Q (.bl (decide (v = .non))) H := by
  intro S H v d c Q hs hr hc k
  have h1 : c = .fz (.bl (isNonD d)) := by cases d <;> (cases hc; rfl)
  subst h1
  have h2 : decide (v = .non) = (isNonD d) := by
    rcases hr with hr | ⟨a, rfl, o⟩
    · cases hr <;> simp [isNonD]
    · cases o <;> simp [isNonD]
  rw [h2]
  exact fin_fz hs k (.bl _)
theorem p1_notN : P1Ok T (k1 .notN) fun v H Q => Q (.bl (!decide (v = .non))) H := by
  intro S H v d c Q hs hr hc k
  have h1 : c = .fz (.bl (!isNonD d)) := by cases d <;> (cases hc; rfl)
  subst h1
  have h2 : (!decide (v = .non)) = (!isNonD d) := by
    rcases hr with hr | ⟨a, rfl, o⟩
    · cases hr <;> simp [isNonD]
    · cases o <;> simp [isNonD]
  rw [h2]
  exact fin_fz hs k (.bl _)
theorem p1_isT : P1Ok T (k1 .isT) fun v H Q => ∃ b, v = .bl b ∧ Q (.bl b) H := by
  intro S H v d c Q hs hr hc k
  cases d <;> first | cases hc | skip
  obtain rfl := hr.bl
  exact ⟨_, rfl, fin_fz hs k (.bl _)⟩
theorem p1_notT : P1Ok T (k1 .notT) fun v H Q => ∃ b, v = .bl b ∧ Q (.bl (!b)) H := by
  intro S H v d c Q hs hr hc k
  cases d <;> first | cases hc | skip
  obtain rfl := hr.bl
  exact ⟨_, rfl, fin_fz hs k (.bl _)⟩
/-- a new list, a new tuple -/
theorem new_lst {Q : VK} {ds : List D} {vs : List V} (hs : Sub S H) (k : ∀ v' S' H', Grow S H S' H' → NewOk T S' H' v' H (.fr (.lst ds)) → Q v' H') (r : RepL T S vs ds) : ∀ l, H l = none → Q (.ref l) (upd H l (.lst vs)) := fun l hl =>
  k _ S _ (.mine hs hl) ⟨l, rfl, .lst (snone hs hl) upd_same r, hl⟩
theorem new_tup {Q : VK} {ds : List D} {vs : List V} (hs : Sub S H) (k : ∀ v' S' H', Grow S H S' H' → NewOk T S' H' v' H (.fz (.tup ds)) → Q v' H') (r : RepL T S vs ds) : ∀ l, H l = none → Q (.ref l) (upd H l (.tup vs)) := fun l hl =>
  k _ _ _ (.laid hs hl) (.tup (SqT.of upd_same) (r.sub (sub_upd (.inl (snone hs hl)))))
theorem p1_tuple : P1Ok T (k1 .tuple) fun v H Q => ∃ p ys, [v] = [.ref p] ∧ ((SqL T.K H p ys ∧ ∀ l, H l = none → Q (.ref l) (upd H l (.tup ys))) ∨ (SqT T.K H p ys ∧ Q (.ref p) H)) := by
  intro S H v d c Q hs hr hc k
  cases d <;> first | cases hc | skip
  · obtain ⟨a, vs, rfl, h1, h2⟩ := hr.tup
    exact ⟨a, vs, rfl, .inr ⟨sqT_sub hs h1, fin_fz hs k (.tup h1 h2)⟩⟩
  · obtain ⟨a, vs, rfl, h1, h2⟩ := hr.lst hs
    exact ⟨a, vs, rfl, .inl ⟨SqL.of h1, new_tup hs k h2⟩⟩
theorem p1_list : P1Ok T (k1 .list) fun v H Q => ∃ p ys, [v] = [.ref p] ∧ (SqL T.K H p ys ∨ SqT T.K H p ys) ∧ ∀ l, H l = none → Q (.ref l) (upd H l (.lst ys)) := by
  intro S H v d c Q hs hr hc k
  cases d <;> first | cases hc | skip
  · obtain ⟨a, vs, rfl, h1, h2⟩ := hr.tup
    exact ⟨a, vs, rfl, .inr (sqT_sub hs h1), new_lst hs k h2⟩
  · obtain ⟨a, vs, rfl, h1, h2⟩ := hr.lst hs
    exact ⟨a, vs, rfl, .inl (SqL.of h1), new_lst hs k h2⟩

theorem p1_rev : P1Ok T (k1 .rev) fun v H Q => ∃ a xs, v = .ref a ∧ SqL T.K H a xs ∧ ∀ p, H p = none → Q (.ref p) (upd H p (.lst xs.reverse)) := by
  intro S H v d c Q hs hr hc k
  cases d <;> first | cases hc | skip
  obtain ⟨a, vs, rfl, h1, h2⟩ := hr.lst hs
  exact ⟨a, vs, rfl, SqL.of h1, new_lst hs k h2.reverse⟩

/-! ### two arguments -/
theorem p2_cmp {p : K2} {f : Int → Int → Bool} (h : ∀ d e, k2 p d e = match d, e with | .int i, .int j => some (.fz (.bl (f i j))) | _, _ => none) : P2Ok T (k2 p) (rI0 fun i j => .bl (f i j)) := by
  intro S H v w d e c Q hs hr hr' hc k
  rw [h] at hc
  cases d <;> first | cases hc | skip
  cases e <;> first | cases hc | skip
  obtain rfl := hr.int
  obtain rfl := hr'.int
  exact ⟨_, _, rfl, rfl, fin_fz hs k (.bl _)⟩
theorem p2_lt : P2Ok T (k2 .lt) (rI0 fun i j => .bl (decide (i < j))) := p2_cmp fun d e => by cases d <;> cases e <;> rfl
theorem p2_le : P2Ok T (k2 .le) (rI0 fun i j => .bl (decide (i ≤ j))) := p2_cmp fun d e => by cases d <;> cases e <;> rfl
theorem p2_gt : P2Ok T (k2 .gt) (rI0 fun i j => .bl (decide (j < i))) := p2_cmp fun d e => by cases d <;> cases e <;> rfl
theorem p2_ge : P2Ok T (k2 .ge) (rI0 fun i j => .bl (decide (j ≤ i))) := p2_cmp fun d e => by cases d <;> cases e <;> rfl
theorem p2_sub : P2Ok T (k2 .sub) (rI0 fun i j => .int (i - j)) := by
  intro S H v w d e c Q hs hr hr' hc k
  cases d <;> first | cases hc | skip
  cases e <;> first | cases hc | skip
  obtain rfl := hr.int
  obtain rfl := hr'.int
  exact ⟨_, _, rfl, rfl, fin_fz hs k (.int _)⟩
theorem sx_append (s t : List Nat) : sx s ++ sx t = sx (s ++ t) := by
  show Str.append (sx s) (sx t) = _
  simp [sx, Str.append]
/-- a + b: ints, texts, lists -/
def rAdd3 : R2 := fun x y H Q => rI0 (fun i j => .int (i + j)) x y H Q ∨ (∃ i j, x = .str i ∧ y = .str j ∧ i.length + j.length ≤ sizeLine ∧ Q (.str (i ++ j)) H) ∨ rCat x y H Q
theorem op_add3 : OpR X (binaryOp .Add) rAdd3 := op_add.or (op_add_str.or op_cat)
theorem p2_add : P2Ok T (k2 .add) rAdd3 := by
  intro S H v w d e c Q hs hr hr' hc k
  cases d <;> first | cases hc | skip
  · cases e <;> first | cases hc | skip
    obtain rfl := hr.int
    obtain rfl := hr'.int
    exact .inl ⟨_, _, rfl, rfl, fin_fz hs k (.int _)⟩
  · cases e <;> first | cases hc | skip
    obtain rfl := hr.str
    obtain rfl := hr'.str
    simp only [k2] at hc
    split at hc
    · cases hc
      rename_i hz
      refine .inr (.inl ⟨_, _, rfl, rfl, by rw [sx_len, sx_len]; exact sizeL_line hz, ?_⟩)
      rw [sx_append]
      exact fin_fz hs k (.str _)
    · cases hc
  · cases e <;> first | cases hc | skip
    obtain ⟨a, vs, rfl, h1, h2⟩ := hr.lst hs
    obtain ⟨b, ws, rfl, h3, h4⟩ := hr'.lst hs
    simp only [k2] at hc
    split at hc
    · cases hc
      rename_i hz
      exact .inr (.inr ⟨a, b, vs, ws, rfl, rfl, h1, h3, by rw [h2.length, h4.length]; exact sizeL_line hz, new_lst hs k (h2.append h4)⟩)
    · cases hc
theorem foldl_arr : ∀ (l : List (List Nat)) (a : Array Nat), ((l.map List.toArray).foldl (· ++ ·) a).toList = a.toList ++ l.flatten
  | [], a => by simp
  | x :: l, a => by
    simp only [List.map_cons, List.foldl_cons, List.flatten_cons]
    rw [foldl_arr l]
    simp
theorem sx_mul (s : List Nat) (n : Int) (h : 0 ≤ n) : Txt.mul (sx s) n = sx (List.replicate n.toNat s).flatten := by
  unfold Txt.mul
  by_cases h1 : n < 1
  · have : n.toNat = 0 := by omega
    rw [if_pos h1, this]; rfl
  · rw [if_neg h1]
    by_cases h2 : (n == 1 || (sx s).length == 0) = true
    · rw [if_pos h2]
      rw [sx_len] at h2
      simp only [Bool.or_eq_true, beq_iff_eq] at h2
      rcases h2 with h2 | h2
      · subst h2; simp
      · have : s = [] := List.length_eq_zero_iff.mp h2
        subst this; simp
    · rw [if_neg h2]
      unfold sx
      congr 1
      have e : (List.replicate n.toNat s.toArray) = (List.replicate n.toNat s).map List.toArray := by simp
      apply Array.toList_inj.mp
      rw [e, foldl_arr]
      simp
def rMul : R2 := fun x y H Q => rI CMul (fun i j => .int (i * j)) x y H Q ∨ ∃ s i, x = .str s ∧ y = .int i ∧ 0 ≤ i ∧ i ≤ 1000 ∧ s.length ≤ 1000 ∧ Q (.str (Txt.mul s i)) H
theorem op_mul_str : OpR X (binaryOp .Mult) (fun x y H Q => ∃ s i, x = .str s ∧ y = .int i ∧ 0 ≤ i ∧ i ≤ 1000 ∧ s.length ≤ 1000 ∧ Q (.str (Txt.mul s i)) H) := by
  intro pins s σ H x y v u Q I rx ry h
  obtain ⟨z, i, rfl, rfl, h0, h1, h2, q⟩ := h
  obtain ⟨t, rfl⟩ := rx
  obtain ⟨t', rfl⟩ := ry
  refine SB.mul ⟨?_, fun h3 _ => ?_, fun h3 _ => ?_⟩ fun t' tk => ⟨.str (Txt.mul z i), H, I.tok _, ⟨_, rfl⟩, q⟩
  · have a : ¬ i < -(2 ^ 63 : Int) := by omega
    have b : ¬ i ≥ 2 ^ 63 := by omega
    rw [decide_eq_false a, decide_eq_false b]; rfl
  · have : (2 ^ 63 - 1 : Int) / 1000 ≤ (2 ^ 63 - 1) / i := Int.le_ediv_of_mul_le (by omega) (by
      have : (2 ^ 63 - 1 : Int) / 1000 * i ≤ (2 ^ 63 - 1) / 1000 * 1000 := Int.mul_le_mul_of_nonneg_left h1 (by decide)
      omega)
    omega
  · have : z.length * i.toNat ≤ 1000 * 1000 := Nat.mul_le_mul h2 (by omega)
    have z16 : 1000 * 1000 ≤ sizeLine := by decide
    simp [Builtin.Str.tooLong]
    omega
theorem op_mul2 : OpR X (binaryOp .Mult) rMul := op_mul.or op_mul_str
theorem p2_mul : P2Ok T (k2 .mul) rMul := by
  intro S H v w d e c Q hs hr hr' hc k
  cases d <;> first | cases hc | skip
  · cases e <;> first | cases hc | skip
    obtain rfl := hr.int
    obtain rfl := hr'.int
    simp only [k2] at hc
    split at hc
    · cases hc
      rename_i hz
      refine .inl ⟨_, _, rfl, rfl, ?_, fin_fz hs k (.int _)⟩
      simp only [int64, Bool.or_eq_true, Bool.and_eq_true, decide_eq_true_eq] at hz
      unfold CMul
      omega
    · cases hc
  · cases e <;> first | cases hc | skip
    obtain rfl := hr.str
    obtain rfl := hr'.int
    simp only [k2] at hc
    split at hc
    · rename_i hz
      cases hc
      refine .inr ⟨_, _, rfl, rfl, hz.1, hz.2.1, by rw [sx_len]; exact hz.2.2, ?_⟩
      rw [sx_mul _ _ hz.1]
      exact fin_fz hs k (.str _)
    · cases hc
theorem p2_fdiv : P2Ok T (k2 .fdiv) (rI CDiv fun i j => .int (i / j)) := by
  intro S H v w d e c Q hs hr hr' hc k
  cases d <;> first | cases hc | skip
  cases e <;> first | cases hc | skip
  obtain rfl := hr.int
  obtain rfl := hr'.int
  simp only [k2] at hc
  split at hc
  · cases hc
    rename_i hz
    refine ⟨_, _, rfl, rfl, ?_, fin_fz hs k (.int _)⟩
    simp only [Bool.and_eq_true, decide_eq_true_eq] at hz
    exact hz
  · cases hc
theorem p2_mod : P2Ok T (k2 .mod) (rI (fun _ j => 0 < j) fun i j => .int (i % j)) := by
  intro S H v w d e c Q hs hr hr' hc k
  cases d <;> first | cases hc | skip
  cases e <;> first | cases hc | skip
  obtain rfl := hr.int
  obtain rfl := hr'.int
  simp only [k2] at hc
  split at hc
  · cases hc
    rename_i hz
    exact ⟨_, _, rfl, rfl, hz, fin_fz hs k (.int _)⟩
  · cases hc
theorem p2_pow : P2Ok T (k2 .pow) (rI CPow fun i j => .int (i ^ j.toNat)) := by
  intro S H v w d e c Q hs hr hr' hc k
  cases d <;> first | cases hc | skip
  cases e <;> first | cases hc | skip
  obtain rfl := hr.int
  obtain rfl := hr'.int
  simp only [k2] at hc
  split at hc
  · cases hc
    rename_i hz
    refine ⟨_, _, rfl, rfl, ?_, fin_fz hs k (.int _)⟩
    simp only [int64, Bool.and_eq_true, decide_eq_true_eq] at hz
    refine ⟨hz.1.1.1, by omega, ?_⟩
    have : (2 : Nat) ^ 64 = 18446744073709551616 := by decide
    omega
  · cases hc
theorem p2_max : P2Ok T (k2 .max) fun v w H Q => ∃ i j, [v, w] = [.int i, .int j] ∧ Q (.int (if j > i then j else i)) H := by
  intro S H v w d e c Q hs hr hr' hc k
  cases d <;> first | cases hc | skip
  cases e <;> first | cases hc | skip
  obtain rfl := hr.int
  obtain rfl := hr'.int
  exact ⟨_, _, rfl, fin_fz hs k (.int _)⟩

/-! data as the library's == takes it -/
mutual
theorem dp_of (h : Sub S H) : ∀ {v : V} {d : D} {x : PyData}, Rep T S v d → pyd d = some x → Dp T.K H v x
  | _, _, _, .non, e => by simp only [pyd] at e; cases e; exact .non
  | _, _, _, .bl b, e => by simp only [pyd] at e; cases e; exact .bl b
  | _, _, _, .int i, e => by simp only [pyd] at e; cases e; exact .int i
  | _, _, _, .str s, e => by simp only [pyd] at e; cases e; exact .str _
  | _, _, _, .tup (ds := ds) a r, e => by
    simp only [pyd] at e
    cases q : pyds ds with
    | none => rw [q] at e; cases e
    | some ys => rw [q] at e; cases e; exact .tup (sqT_sub h a) (dps_of h r q)
  | _, _, _, .lst (ds := ds) a r, e => by
    simp only [pyd] at e
    cases q : pyds ds with
    | none => rw [q] at e; cases e
    | some ys => rw [q] at e; cases e; exact .lst (SqL.of (h _ _ a)) (dps_of h r q)
  | _, _, _, .frl a r, e => by simp only [pyd] at e; cases e
  | _, _, _, .dK a r, e => by simp only [pyd] at e; cases e
  | _, _, _, .dT a r, e => by simp only [pyd] at e; cases e
  | _, _, _, .obj a r, e => by simp only [pyd] at e; cases e
theorem dps_of (h : Sub S H) : ∀ {vs : List V} {ds : List D} {xs : List PyData}, RepL T S vs ds → pyds ds = some xs → DpAll T.K H vs xs
  | _, _, _, .nil, e => by simp only [pyds] at e; cases e; exact .nil
  | _, _, _, .cons (d := d) (ds := ds) a r, e => by
    simp only [pyds] at e
    cases q : pyd d with
    | none => rw [q] at e; cases e
    | some x =>
      cases q' : pyds ds with
      | none => rw [q, q'] at e; cases e
      | some xs => rw [q, q'] at e; cases e; exact .cons (dp_of h a q) (dps_of h r q')
end
theorem dp_rd {d : D} {x : PyData} (hs : Sub S H) (h : Rd1 T S H v d) (e : pyd d = some x) : Dp T.K H v x := by
  rcases h with h | ⟨a, rfl, o⟩
  · exact dp_of hs h e
  · cases o with
    | @lst vs ds h1 h2 h3 =>
      simp only [pyd] at e
      cases q : pyds ds with
      | none => rw [q] at e; cases e
      | some ys => rw [q] at e; cases e; exact .lst (SqL.of h2) (dps_of hs h3 q)
    | dK _ _ _ => simp only [pyd] at e; cases e
    | dT _ _ _ => simp only [pyd] at e; cases e
    | obj _ _ _ => simp only [pyd] at e; cases e
theorem eqD_some {d e : D} {b : Bool} (h : eqD d e = some b) : ∃ x y, pyd d = some x ∧ pyd e = some y ∧ SeqAt.shaped x = true ∧ SeqAt.shaped y = true ∧ b = PyData.eqv x y := by
  unfold eqD at h
  cases q : pyd d with
  | none => rw [q] at h; cases h
  | some x =>
    cases q' : pyd e with
    | none => rw [q, q'] at h; cases h
    | some y =>
      rw [q, q'] at h
      simp only [] at h
      split at h
      · cases h
        rename_i hz
        simp only [Bool.and_eq_true] at hz
        exact ⟨x, y, rfl, rfl, hz.1, hz.2, rfl⟩
      · cases h
theorem p2_eq : P2Ok T (k2 .eq) (rEqD T.K) := by
  intro S H v w d e c Q hs hr hr' hc k
  cases q : eqD d e with
  | none => simp only [k2, q] at hc; cases hc
  | some b =>
    have hc : some (R.fz (.bl b)) = some c := by simpa only [k2, q, Option.map_some] using hc
    cases hc
    obtain ⟨x, y, h1, h2, h3, h4, rfl⟩ := eqD_some q
    exact ⟨x, y, dp_rd hs hr h1, dp_rd hs hr' h2, h3, h4, fin_fz hs k (.bl _)⟩
theorem p2_ne : P2Ok T (k2 .ne) (rNeD T.K) := by
  intro S H v w d e c Q hs hr hr' hc k
  cases q : eqD d e with
  | none => simp only [k2, q] at hc; cases hc
  | some b =>
    have hc : some (R.fz (.bl (!b))) = some c := by simpa only [k2, q, Option.map_some] using hc
    cases hc
    obtain ⟨x, y, h1, h2, h3, h4, rfl⟩ := eqD_some q
    exact ⟨x, y, dp_rd hs hr h1, dp_rd hs hr' h2, h3, h4, fin_fz hs k (.bl _)⟩
theorem flat_rep {d : D} (h : Rep T S v d) (f : flatD d = true) : flatV v = true := by cases h <;> first | rfl | cases f
theorem flat_rd {d : D} (h : Rd1 T S H v d) (f : flatD d = true) : flatV v = true := by
  rcases h with h | ⟨a, rfl, o⟩
  · exact flat_rep h f
  · cases o <;> cases f
theorem flats : ∀ {vs : List V} {ds : List D}, RepL T S vs ds → ds.all flatD = true → vs.all flatV = true
  | _, _, .nil, _ => rfl
  | _, _, .cons a r, e => by
    rw [List.all_cons, Bool.and_eq_true] at e ⊢
    exact ⟨flat_rep a e.1, flats r e.2⟩
theorem sx_inj {s t : List Nat} : (sx s == sx t) = (s == t) := by
  rw [Bool.eq_iff_iff]
  simp [sx]
theorem eqV_rep {d e : D} {v w : V} (h : Rep T S v d) (h' : Rep T S w e) (f : flatD d = true) (f' : flatD e = true) : eqV v w = eqF d e := by
  cases h <;> first | (cases h' <;> first | rfl | exact sx_inj | cases f') | cases f
theorem rep_of_flat {d : D} (h : Rd1 T S H v d) (f : flatD d = true) : Rep T S v d := by
  rcases h with h | ⟨a, rfl, o⟩
  · exact h
  · cases o <;> cases f
theorem any_rep {x : D} {w : V} (hw : Rep T S w x) (fx : flatD x = true) : ∀ {vs : List V} {ds : List D}, RepL T S vs ds → ds.all flatD = true → (vs.any fun y => eqV y w) = ds.any fun y => eqF y x
  | _, _, .nil, _ => rfl
  | _, _, .cons a r, e => by
    rw [List.all_cons, Bool.and_eq_true] at e
    rw [List.any_cons, List.any_cons, any_rep hw fx r e.2, eqV_rep a hw e.1 fx]
/-- x in y: lists and tuples of flat things, one sign in a text -/
def rIn2 (K : PySem.W.Frag) (neg : Bool) : R2 := fun x y H Q => rIn K neg x y H Q ∨ ∃ (c : Nat) (z : Str), x = .str ⟨#[c]⟩ ∧ y = .str z ∧ Q (.bl (if neg then !decide (c ∈ z.cps.toList) else decide (c ∈ z.cps.toList))) H
theorem p2_inN (neg : Bool) (S H : Hp) (v w : V) (d e : D) (b : Bool) (Q : VK) (hs : Sub S H) (hr : Rd1 T S H v d) (hr' : Rd1 T S H w e) (q : inD d e = some b)
    (k : ∀ v' S' H', Grow S H S' H' → NewOk T S' H' v' H (.fz (.bl (if neg then !b else b))) → Q v' H') : rIn2 T.K neg v w H Q := by
  cases e with
  | str s =>
    cases d <;> first | (simp only [inD] at q; cases q) | skip
    rename_i t
    match t, q with
    | [c], q =>
      simp only [inD] at q
      cases q
      obtain rfl := hr.str
      obtain rfl := hr'.str
      refine .inr ⟨c, _, rfl, rfl, ?_⟩
      exact fin_fz hs k (.bl _)
  | lst ds =>
    simp only [inD] at q
    split at q
    · cases q
      rename_i hz
      rw [Bool.and_eq_true] at hz
      obtain ⟨a, vs, rfl, h1, h2⟩ := hr'.lst hs
      have r := rep_of_flat hr hz.1
      refine .inl ⟨a, vs, rfl, .inl (SqL.of h1), flat_rep r hz.1, flats h2 hz.2, ?_⟩
      have e : inV v vs = ds.any fun y => eqF y d := any_rep r hz.1 h2 hz.2
      rw [e]
      exact fin_fz hs k (.bl _)
    · cases q
  | tup ds =>
    simp only [inD] at q
    split at q
    · cases q
      rename_i hz
      rw [Bool.and_eq_true] at hz
      obtain ⟨a, vs, rfl, h1, h2⟩ := hr'.tup
      have r := rep_of_flat hr hz.1
      refine .inl ⟨a, vs, rfl, .inr (sqT_sub hs h1), flat_rep r hz.1, flats h2 hz.2, ?_⟩
      have e : inV v vs = ds.any fun y => eqF y d := any_rep r hz.1 h2 hz.2
      rw [e]
      exact fin_fz hs k (.bl _)
    · cases q
  | non => simp only [inD] at q; cases q
  | bl _ => simp only [inD] at q; cases q
  | int _ => simp only [inD] at q; cases q
  | frl _ => simp only [inD] at q; cases q
  | dct _ => simp only [inD] at q; cases q
  | obj _ _ => simp only [inD] at q; cases q
theorem p2_in : P2Ok T (k2 .in_) (rIn2 T.K false) := by
  intro S H v w d e c Q hs hr hr' hc k
  cases q : inD d e with
  | none => simp only [k2, q] at hc; cases hc
  | some b =>
    have hc : some (R.fz (.bl b)) = some c := by simpa only [k2, q, Option.map_some] using hc
    cases hc
    exact p2_inN false S H v w d e b Q hs hr hr' q k
theorem p2_notin : P2Ok T (k2 .notin) (rIn2 T.K true) := by
  intro S H v w d e c Q hs hr hr' hc k
  cases q : inD d e with
  | none => simp only [k2, q] at hc; cases hc
  | some b =>
    have hc : some (R.fz (.bl (!b))) = some c := by simpa only [k2, q, Option.map_some] using hc
    cases hc
    exact p2_inN true S H v w d e b Q hs hr hr' q k
theorem ixD_ixN (n : Nat) (i : Int) : ixD n i = ixN n i := rfl
theorem p2_idx : P2Ok T (k2 .idx) (rIx T.K) := by
  intro S H v w d e c Q hs hr hr' hc k
  cases q : idxD d e with
  | none => simp only [k2, q] at hc; cases hc
  | some y =>
    have hc : some (R.fz y) = some c := by simpa only [k2, q, Option.map_some] using hc
    cases hc
    cases d <;> first | (simp only [idxD] at q; cases q) | skip
    · cases e <;> first | (simp only [idxD] at q; cases q) | skip
      rename_i s i
      simp only [idxD] at q
      split at q
      · rename_i hz
        obtain rfl := hr.str
        obtain rfl := hr'.int
        cases q1 : ixD s.length i with
        | none => rw [q1] at q; cases q
        | some j =>
          rw [q1, Option.bind_some] at q
          cases q2 : s[j]? with
          | none => rw [q2] at q; cases q
          | some ch =>
            rw [q2] at q; cases q
            refine .inr (.inr ⟨sx s, i, ch, rfl, rfl, by rw [sx_len]; exact sizeL_line hz, ?_, fin_fz hs k (.str [ch])⟩)
            show (ixN s.length i).bind _ = _
            rw [← ixD_ixN, q1]
            exact q2
      · cases q
    · cases e <;> first | (simp only [idxD] at q; cases q) | skip
      rename_i ds i
      simp only [idxD] at q
      obtain ⟨a, vs, rfl, h1, h2⟩ := hr.tup
      obtain rfl := hr'.int
      cases q1 : ixD ds.length i with
      | none => rw [q1] at q; cases q
      | some j =>
        rw [q1, Option.bind_some] at q
        obtain ⟨u, h3, h4⟩ := h2.get q
        refine .inr (.inl ⟨a, vs, i, u, rfl, rfl, sqT_sub hs h1, ?_, fin_fz hs k h4⟩)
        show (ixN vs.length i).bind _ = _
        rw [h2.length, ← ixD_ixN, q1]
        exact h3
    · cases e <;> first | (simp only [idxD] at q; cases q) | skip
      rename_i ds i
      simp only [idxD] at q
      obtain ⟨a, vs, rfl, h1, h2⟩ := hr.lst hs
      obtain rfl := hr'.int
      cases q1 : ixD ds.length i with
      | none => rw [q1] at q; cases q
      | some j =>
        rw [q1, Option.bind_some] at q
        obtain ⟨u, h3, h4⟩ := h2.get q
        refine .inl ⟨a, vs, i, u, rfl, rfl, SqL.of h1, ?_, fin_fz hs k h4⟩
        show (ixN vs.length i).bind _ = _
        rw [h2.length, ← ixD_ixN, q1]
        exact h3
end
end Z

set_option Elab.async false
set_option linter.all false
set_option maxHeartbeats 1000000
/-! ZExp2: tests, displays, slices, isinstance, pop. -/
namespace Z
open PySem L2
section
variable {T : Tab} {W : WX} {X : Cx}

/-! ### bools, tests -/
theorem isB_ok {r : R} {δ δ' : DSt} {b : Bool} (h : isB r δ = .ok b δ') : r = .fz (.bl b) ∧ δ' = δ := by
  cases r with
  | fr d => cases h
  | fz d => cases d <;> cases h <;> exact ⟨rfl, rfl⟩
theorem isB_ex {r : R} {δ δ' : DSt} {x : Ex} (h : isB r δ = .ex x δ') : False := by
  cases r with
  | fr d => cases h
  | fz d => cases d <;> cases h
/-- a bool that is asked: its reading ends in the very bool -/
theorem toB {σ : St} {S H : Hp} {δ : DSt} {r : R} {δ1 : DSt} {S1 H1 : Hp} {k : Bool → DSt → Hp → Hp → Prop} {H0 : Hp} {δ0 : DSt} {v : V} (G : Good T S1 H1 δ1 σ) (s : Stp S H δ σ S1 H1 δ1 σ) (hr : ResOk T H0 δ0 S1 H1 δ1 σ v r) (h : OutP T W σ S H δ (isB r δ1) k) :
    ∃ b, v = .bl b ∧ k b δ1 S1 H1 := by
  cases q : isB r δ1 with
  | ok b δ' =>
    obtain ⟨rfl, rfl⟩ := isB_ok q
    rw [q] at h
    cases hr
    exact ⟨b, rfl, h S1 H1 G s⟩
  | ex x δ' => exact (isB_ex q).elim
  | bad => rw [q] at h; exact h.elim
/-- an expression whose value is a bool, as a test -/
theorem sT_val {e : Expr} {m : E} (h : PE X e (rdE T W m)) (he : ∀ whole, isTrue e X.env whole = (do let v ← whole; standAt e.pos; holding [v] (truthy v))) : PT X e (rdT T W m) := by
  refine PT.mono (pt_val h he) fun σ H Q ⟨S, δ, G, h⟩ => ⟨S, δ, G, ?_⟩
  refine h.bindS.mono fun r δ1 S1 H1 G1 s1 h1 v hr => ?_
  exact toB G1 s1 hr h1
def plainTest : Expr → Bool
  | .UnaryOp .Not _ _ => false
  | .BoolOp _ _ _ => false
  | .IfExp _ _ _ _ => false
  | .Compare _ _ _ _ => false
  | _ => true
theorem plainTest_ok {e : Expr} {env : Env} (h : plainTest e = true) : ∀ whole, isTrue e env whole = (do let v ← whole; standAt e.pos; holding [v] (truthy v)) := by
  intro whole
  cases e with
  | UnaryOp op _ _ => cases op <;> first | rfl | cases h
  | BoolOp => cases h
  | IfExp => cases h
  | Compare => cases h
  | _ => rfl
/-- a comparison, a chain: the value's rule gives the test's -/
theorem sT_tTest {e : Expr} {m : E} {t : TE} (h : PT X e (tTest t)) (hm : ∀ σ H Q, rdE T W m σ H Q → t σ H Q) : PT X e (rdT T W m) := by
  refine PT.mono h fun σ H Q ⟨S, δ, G, h⟩ => ?_
  refine hm σ H _ ⟨S, δ, G, ?_⟩
  refine h.bindS.mono fun r δ1 S1 H1 G1 s1 h1 v hr => ?_
  exact toB G1 s1 hr h1
theorem bind_assoc {α β γ : Type} (o : Out α) (f : α → DSt → Out β) (g : β → DSt → Out γ) : (o.bind f).bind g = o.bind fun a δ => (f a δ).bind g := by
  cases o <;> rfl
theorem rdT_and {σ : St} {H : Hp} {Q : Bool → Hp → Prop} {a b : E} (h : rdT T W (.and a b) σ H Q) : rdT T W a σ H fun c H1 => if c = true then rdT T W b σ H1 Q else Q false H1 := by
  obtain ⟨S, δ, G, h⟩ := h
  refine ⟨S, δ, G, ?_⟩
  simp only [den] at h
  rw [bind_assoc] at h
  refine h.bind.mono fun c δ1 S1 H1 G1 s1 h1 => ?_
  cases c with
  | true => exact ⟨S1, δ1, G1, h1⟩
  | false => exact OutP.here G1 h1
theorem rdT_or {σ : St} {H : Hp} {Q : Bool → Hp → Prop} {a b : E} (h : rdT T W (.or a b) σ H Q) : rdT T W a σ H fun c H1 => if c = true then Q true H1 else rdT T W b σ H1 Q := by
  obtain ⟨S, δ, G, h⟩ := h
  refine ⟨S, δ, G, ?_⟩
  simp only [den] at h
  rw [bind_assoc] at h
  refine h.bind.mono fun c δ1 S1 H1 G1 s1 h1 => ?_
  cases c with
  | false => exact ⟨S1, δ1, G1, h1⟩
  | true => exact OutP.here G1 h1
theorem rdT_not {σ : St} {H : Hp} {Q : Bool → Hp → Prop} {a : E} (h : rdT T W (.not a) σ H Q) : rdT T W a σ H fun c H1 => Q (!c) H1 := by
  obtain ⟨S, δ, G, h⟩ := h
  refine ⟨S, δ, G, ?_⟩
  simp only [den] at h
  rw [bind_assoc] at h
  exact h.bind.mono fun c δ1 S1 H1 G1 s1 h1 => OutP.here G1 h1
theorem rdT_ife {σ : St} {H : Hp} {Q : Bool → Hp → Prop} {c a b : E} (h : rdT T W (.ife c a b) σ H Q) : rdT T W c σ H fun c H1 => if c = true then rdT T W a σ H1 Q else rdT T W b σ H1 Q := by
  obtain ⟨S, δ, G, h⟩ := h
  refine ⟨S, δ, G, ?_⟩
  simp only [den] at h
  rw [bind_assoc] at h
  refine h.bind.mono fun c δ1 S1 H1 G1 s1 h1 => ?_
  cases c with
  | true => exact ⟨S1, δ1, G1, h1⟩
  | false => exact ⟨S1, δ1, G1, h1⟩
/-- the tests -/
theorem sT_and {a b : Expr} {rest : List Expr} {pos : Pos} {ma mb : E} (ha : PT X a (rdT T W ma)) (hb : PW X (.BoolOp .And (b :: rest) pos) (rdT T W mb)) : PW X (.BoolOp .And (a :: b :: rest) pos) (rdT T W (.and ma mb)) :=
  PW.mono (pw_and ha hb) fun _ _ _ h => rdT_and h
theorem sT_or {a b : Expr} {rest : List Expr} {pos : Pos} {ma mb : E} (ha : PT X a (rdT T W ma)) (hb : PW X (.BoolOp .Or (b :: rest) pos) (rdT T W mb)) : PW X (.BoolOp .Or (a :: b :: rest) pos) (rdT T W (.or ma mb)) :=
  PW.mono (pw_or ha hb) fun _ _ _ h => rdT_or h
theorem rdT_one {σ : St} {H : Hp} {Q : Bool → Hp → Prop} {a : E} (h : rdT T W (.one a) σ H Q) : rdT T W a σ H Q := by
  obtain ⟨S, δ, G, h⟩ := h
  exact ⟨S, δ, G, by simpa only [den] using h⟩
theorem sT_and1 {a : Expr} {pos : Pos} {ma : E} (ha : PT X a (rdT T W ma)) : PW X (.BoolOp .And [a] pos) (rdT T W (.one ma)) := PW.mono (pw_and1 ha) fun _ _ _ h => rdT_one h
theorem sT_or1 {a : Expr} {pos : Pos} {ma : E} (ha : PT X a (rdT T W ma)) : PW X (.BoolOp .Or [a] pos) (rdT T W (.one ma)) := PW.mono (pw_or1 ha) fun _ _ _ h => rdT_one h
theorem sT_not {a : Expr} {pos : Pos} {ma : E} (ha : PT X a (rdT T W ma)) : PT X (.UnaryOp .Not a pos) (rdT T W (.not ma)) := PT.mono (pt_not ha) fun _ _ _ h => rdT_not h
/-- .. and the same as values -/
theorem rdE_bool {σ : St} {H : Hp} {Q : VK} {m : E} {f : Bool → DSt → Out R} {S : Hp} {δ : DSt} (G : Good T S H δ σ) (h : OutP T W σ S H δ (((den m δ).bind isB).bind f) fun r δ' S' H' => ∀ v, ResOk T H δ S' H' δ' σ v r → Q v H') :
    rdE T W m σ H fun x H1 => ∃ c, x = .bl c ∧ ∃ S1 δ1, Good T S1 H1 δ1 σ ∧ OutP T W σ S1 H1 δ1 (f c δ1) fun r δ' S' H' => ∀ v, ResOk T H1 δ1 S' H' δ' σ v r → Q v H' := by
  refine ⟨S, δ, G, ?_⟩
  rw [bind_assoc] at h
  refine h.bindS.mono fun r δ1 S1 H1 G1 s1 h1 v hr => ?_
  obtain ⟨b, rfl, k⟩ := toB G1 s1 hr h1.bindS
  refine ⟨b, rfl, S1, δ1, G1, ?_⟩
  exact (k.back s1).mono fun r2 δ2 S2 H2 G2 s2 h2 v2 hr2 => h2 v2 (hr2.back s1)
theorem sE_and {a b : Expr} {rest : List Expr} {pos : Pos} {ma mb : E} (ha : PE X a (rdE T W ma)) (hb : PE X (.BoolOp .And (b :: rest) pos) (rdE T W mb)) : PE X (.BoolOp .And (a :: b :: rest) pos) (rdE T W (.and ma mb)) := by
  refine PE.mono (pe_and ha hb) fun σ H Q ⟨S, δ, G, h⟩ => ?_
  simp only [den] at h
  obtain ⟨S0, δ0, G0, q⟩ := rdE_bool G h
  refine ⟨S0, δ0, G0, q.mono fun r δ1 S1 H1 G1 s1 k v hr => ?_⟩
  obtain ⟨c, rfl, S2, δ2, G2, h2⟩ := k v hr
  refine ⟨c, rfl, ?_⟩
  cases c with
  | true => exact ⟨S2, δ2, G2, h2⟩
  | false => exact OutP.here G2 h2 _ (.bl _)
theorem sE_or {a b : Expr} {rest : List Expr} {pos : Pos} {ma mb : E} (ha : PE X a (rdE T W ma)) (hb : PE X (.BoolOp .Or (b :: rest) pos) (rdE T W mb)) : PE X (.BoolOp .Or (a :: b :: rest) pos) (rdE T W (.or ma mb)) := by
  refine PE.mono (pe_or ha hb) fun σ H Q ⟨S, δ, G, h⟩ => ?_
  simp only [den] at h
  obtain ⟨S0, δ0, G0, q⟩ := rdE_bool G h
  refine ⟨S0, δ0, G0, q.mono fun r δ1 S1 H1 G1 s1 k v hr => ?_⟩
  obtain ⟨c, rfl, S2, δ2, G2, h2⟩ := k v hr
  refine ⟨c, rfl, ?_⟩
  cases c with
  | true => exact OutP.here G2 h2 _ (.bl _)
  | false => exact ⟨S2, δ2, G2, h2⟩
theorem sE_one {op : BoolOp} {a : Expr} {pos : Pos} {ma : E} (ha : PE X a (rdE T W ma)) : PE X (.BoolOp op [a] pos) (rdE T W (.one ma)) :=
  PE.mono (pe_one ha) fun _ _ _ ⟨S, δ, G, h⟩ => ⟨S, δ, G, by simpa only [den] using h⟩
theorem sE_not {a : Expr} {pos : Pos} {ma : E} (ha : PE X a (rdE T W ma)) : PE X (.UnaryOp .Not a pos) (rdE T W (.not ma)) := by
  refine PE.mono (pe_not ha) fun σ H Q ⟨S, δ, G, h⟩ => ?_
  simp only [den] at h
  obtain ⟨S0, δ0, G0, q⟩ := rdE_bool G h
  refine ⟨S0, δ0, G0, q.mono fun r δ1 S1 H1 G1 s1 k v hr => ?_⟩
  obtain ⟨c, rfl, S2, δ2, G2, h2⟩ := k v hr
  exact ⟨c, rfl, OutP.here G2 h2 _ (.bl _)⟩
theorem sE_ife {c a b : Expr} {pos : Pos} {mc ma mb : E} (hc : PT X c (rdT T W mc)) (ha : PE X a (rdE T W ma)) (hb : PE X b (rdE T W mb)) : PE X (.IfExp c a b pos) (rdE T W (.ife mc ma mb)) := by
  refine PE.mono (pe_ifExp hc ha hb) fun σ H Q ⟨S, δ, G, h⟩ => ⟨S, δ, G, ?_⟩
  simp only [den] at h
  refine h.bind.mono fun c δ1 S1 H1 G1 s1 h1 => ?_
  have k : ∀ m, OutP T W σ S1 H1 δ1 (den m δ1) (fun r δ' S' H' => ∀ v, ResOk T H δ S' H' δ' σ v r → Q v H') → rdE T W m σ H1 Q := fun m q =>
    ⟨S1, δ1, G1, q.mono fun r δ2 S2 H2 G2 s2 k v hr => k v (hr.back s1)⟩
  cases c with
  | true => exact k ma h1
  | false => exact k mb h1
theorem rd_chn {a b c : E} {p q : K2} {r r' : R2} (hp : P2Ok T (k2 p) r) (hq : P2Ok T (k2 q) r') : ∀ σ H Q, rdE T W (.chn p q a b c) σ H Q → tChain r r' (rdA T W a) (rdA T W b) (rdA T W c) σ H Q := fun σ H Q ⟨S, δ, G, h⟩ => by
  refine ⟨S, δ, G, ?_⟩
  simp only [den] at h
  refine h.bind.mono fun x δ1 S1 H1 G1 s1 h1 v av => ⟨S1, δ1, G1, ?_⟩
  refine h1.bind.mono fun y δ2 S2 H2 G2 s2 h2 w aw => ?_
  cases e1 : res δ2 x with
  | none => rw [e1] at h2; exact h2.elim
  | some d =>
    cases e2 : res δ2 y with
    | none => rw [e1, e2] at h2; exact h2.elim
    | some d' =>
      rw [e1, e2] at h2
      have h2 : OutP T W σ S2 H2 δ2 ((opt1 δ2 (k2 p d d')).bind _) _ := h2
      cases e3 : k2 p d d' with
      | none => rw [e3] at h2; exact h2.elim
      | some c0 =>
        rw [e3] at h2
        have h2 : OutP T W σ S2 H2 δ2 ((isB c0 δ2).bind _) _ := h2
        show r v w H2 (fun z H3 => ∃ k, z = V.bl k ∧ if k = true then rdA T W c σ H3 fun w' H4 => r' w w' H4 Q else Q (V.bl false) H3)
        refine hp S2 H2 v w d d' c0 _ G2.sub ((av.sub s2.ext).rd G2 e1) (aw.rd G2 e2) e3 fun v3 S3 H3 g n => ?_
        obtain ⟨k, rfl, h3⟩ := toB (G2.grow g) (g.stp δ2 σ) (n.res G2) h2.bindS
        refine ⟨k, rfl, ?_⟩
        have s3 : Stp S H δ σ S3 H3 δ2 σ := (s1.trans s2).trans (g.stp δ2 σ)
        have h3 := h3.back (g.stp δ2 σ)
        cases k with
        | true =>
          refine ⟨S3, δ2, G2.grow g, ?_⟩
          refine (OutP.bind h3).mono fun z δ4 S4 H4 G4 s4 h4 u au => ?_
          obtain ⟨c1, hc1, k1⟩ := prim_end G4 (s3.trans s4) h4
          cases e4 : res δ4 y with
          | none => rw [e4] at hc1; cases hc1
          | some d4 =>
            cases e5 : res δ4 z with
            | none => rw [e4, e5] at hc1; cases hc1
            | some d5 =>
              rw [e4, e5] at hc1
              exact hq S4 H4 w u d4 d5 c1 Q G4.sub ((aw.sub (g.ext.trans s4.ext)).rd G4 e4) (au.rd G4 e5) hc1 k1
        | false => exact OutP.here (G2.grow g) h3 _ (.bl _)

theorem sE_chn {e : Expr} {a b c : E} {p q : K2} {r r' : R2} (h : PE X e (tChain r r' (rdA T W a) (rdA T W b) (rdA T W c))) (hp : P2Ok T (k2 p) r) (hq : P2Ok T (k2 q) r') : PE X e (rdE T W (.chn p q a b c)) :=
  PE.mono h (rd_chn hp hq)

/-! ### displays -/
theorem sA_nil : PA X [] (rdEs T W .nil) := by
  refine PA.mono pa_nil fun σ H Q ⟨S, δ, G, h⟩ => ?_
  simp only [denEs] at h
  exact h S H G (.refl ..) [] .nil
theorem sA_cons {e : Expr} {es : List Expr} {m : E} {ms : Es} (he : PE X e (rdE T W m)) (hs : PA X es (rdEs T W ms)) (hst : notStar e = true) : PA X (e :: es) (rdEs T W (.cons m ms)) := by
  refine PA.mono (pa_cons he hs (star1 hst)) fun σ H Q ⟨S, δ, G, h⟩ => ⟨S, δ, G, ?_⟩
  simp only [denEs] at h
  refine h.bindS.mono fun r δ1 S1 H1 G1 s1 h1 v hr => ?_
  obtain ⟨x, S2, e1, G2, s2, a, k⟩ := frz_ok G1 s1 hr h1.bindS
  cases x with
  | pk i => exact k.elim
  | val d =>
    refine ⟨S2, δ1, G2, ?_⟩
    refine (k.back s2).bind.mono fun ds δ3 S3 H3 G3 s3 h3 vs hvs => ?_
    exact OutP.here G3 h3 _ (.cons (Rep.sub s3.ext a) hvs)
def lenEs : Es → Nat
  | .nil => 0
  | .cons _ r => lenEs r + 1
theorem denEs_len : ∀ {ms : Es} {δ δ' : DSt} {ds : List D}, denEs ms δ = .ok ds δ' → ds.length = lenEs ms
  | .nil, δ, δ', ds, h => by simp only [denEs] at h; cases h; rfl
  | .cons m ms, δ, δ', ds, h => by
    simp only [denEs] at h
    cases q : den m δ with
    | bad => rw [q] at h; cases h
    | ex x δ1 => rw [q] at h; cases h
    | ok r δ1 =>
      rw [q] at h
      have h : (frz r δ1).bind _ = _ := h
      cases q2 : frz r δ1 with
      | bad => rw [q2] at h; cases h
      | ex x δ2 => rw [q2] at h; cases h
      | ok x δ2 =>
        rw [q2] at h
        cases x with
        | pk i => cases h
        | val d =>
          have h : (denEs ms δ2).bind _ = _ := h
          cases q3 : denEs ms δ2 with
          | bad => rw [q3] at h; cases h
          | ex x δ2 => rw [q3] at h; cases h
          | ok ds' δ3 =>
            rw [q3] at h
            cases h
            simp [lenEs, denEs_len q3]
theorem sE_tup {es : List Expr} {k : Nat} {pos : Pos} {ms : Es} (h : PA X es (rdEs T W ms)) (hl : lenEs ms ≤ 1000) : PE X (.Tuple es k pos) (rdE T W (.tup ms)) := by
  refine PE.mono (pe_tup h) fun σ H Q ⟨S, δ, G, h⟩ => ⟨S, δ, G, ?_⟩
  simp only [den] at h
  cases q : denEs ms δ with
  | bad => rw [q] at h; exact h.elim
  | ex x δ1 => rw [q] at h; exact h
  | ok ds δ1 =>
    rw [q] at h
    intro S1 H1 G1 s1 vs hvs
    refine ⟨by rw [hvs.length, denEs_len q]; exact Nat.le_trans hl (by rw [sizeLine_eq]; decide), ?_⟩
    exact new_tup G1.sub (fun v' S' H' g n => h S' H' (G1.grow g) (s1.trans (g.stp δ1 σ)) v' ((n.res G1).back s1)) hvs
theorem sE_lst {es : List Expr} {pos : Pos} {ms : Es} (h : PA X es (rdEs T W ms)) (hl : lenEs ms ≤ 1000) : PE X (.List es pos) (rdE T W (.lst ms)) := by
  refine PE.mono (pe_lst h) fun σ H Q ⟨S, δ, G, h⟩ => ⟨S, δ, G, ?_⟩
  simp only [den] at h
  cases q : denEs ms δ with
  | bad => rw [q] at h; exact h.elim
  | ex x δ1 => rw [q] at h; exact h
  | ok ds δ1 =>
    rw [q] at h
    intro S1 H1 G1 s1 vs hvs
    refine ⟨by rw [hvs.length, denEs_len q]; exact Nat.le_trans hl (by rw [sizeLine_eq]; decide), ?_⟩
    exact new_lst G1.sub (fun v' S' H' g n => h S' H' (G1.grow g) (s1.trans (g.stp δ1 σ)) v' ((n.res G1).back s1)) hvs
end
end Z

set_option Elab.async false
set_option linter.all false
set_option maxHeartbeats 1000000
/-! ZExp3: slices, isinstance, join, pop. -/
namespace Z
open PySem L2
section
variable {T : Tab} {W : WX} {X : Cx}
/-! ### slices -/
def rdO (T : Tab) (W : WX) (m : OE) : TO := fun σ H Q => ∃ S δ, Good T S H δ σ ∧ OutP T W σ S H δ (denO m δ) fun l δ' S' H' => Q l H'
theorem PO.mono {e : Option Expr} {t u : TO} (h : PO X e t) (m : ∀ σ H Q, u σ H Q → t σ H Q) : PO X e u := ⟨fun pins s σ H Q I q => h.run pins s σ H Q I (m σ H Q q)⟩
theorem sO_none : PO X none (rdO T W .none) := by
  refine PO.mono po_none fun σ H Q ⟨S, δ, G, h⟩ => ?_
  simp only [denO] at h
  exact OutP.here G h
theorem isI_ok {r : R} {δ δ' : DSt} {i : Option Int} (h : isI r δ = .ok i δ') : ∃ j, i = some j ∧ r = .fz (.int j) ∧ δ' = δ := by
  cases r with
  | fr d => cases h
  | fz d => cases d <;> cases h <;> exact ⟨_, rfl, rfl, rfl⟩
theorem isI_ex {r : R} {δ δ' : DSt} {x : Ex} (h : isI r δ = .ex x δ') : False := by
  cases r with
  | fr d => cases h
  | fz d => cases d <;> cases h
theorem sO_some {e : Expr} {m : E} (h : PE X e (rdE T W m)) : PO X (some e) (rdO T W (.some m)) := by
  refine PO.mono (po_some h) fun σ H Q ⟨S, δ, G, h⟩ => ⟨S, δ, G, ?_⟩
  simp only [denO] at h
  refine h.bindS.mono fun r δ1 S1 H1 G1 s1 h1 v hr => ?_
  cases q : isI r δ1 with
  | ok i δ' =>
    obtain ⟨j, rfl, rfl, rfl⟩ := isI_ok q
    rw [q] at h1
    cases hr
    exact ⟨j, rfl, h1 S1 H1 G1 s1⟩
  | ex x δ' => exact (isI_ex q).elim
  | bad => rw [q] at h1; exact h1.elim
def rSlc (K : PySem.W.Frag) : V → Option Int → Option Int → Hp → VK → Prop := fun x lo hi H Q => rSlS x lo hi H Q ∨ rSlL K x lo hi H Q ∨ rSlT K x lo hi H Q
theorem sl_any : SlR X (rSlc X.K) := sl_str.or (sl_list.or sl_tup)
theorem slc_ok {S H : Hp} {v : V} {d : D} {lo hi : Option Int} {c : R} {Q : VK} (hs : Sub S H) (hr : Rd1 T S H v d) (hc : slcD d lo hi = some c) (k : ∀ v' S' H', Grow S H S' H' → NewOk T S' H' v' H c → Q v' H') : rSlc T.K v lo hi H Q := by
  have cut : ∀ {vs : List V} {ds : List D}, RepL T S vs ds → RepL T S (cutV vs lo hi) (cutD ds lo hi) := fun {vs ds} r => by
    have e : cutV vs lo hi = (vs.drop (clipD ds.length 0 lo)).take (clipD ds.length ds.length hi - clipD ds.length 0 lo) := by
      show (vs.drop (HT.sIx vs.length 0 lo)).take (HT.sIx vs.length vs.length hi - HT.sIx vs.length 0 lo) = _
      rw [r.length]
      rfl
    rw [e]
    exact (r.drop _).take _
  cases d <;> first | (simp only [slcD] at hc; cases hc) | skip
  · rename_i s
    simp only [slcD] at hc
    split at hc
    · cases hc
      rename_i hz
      obtain rfl := hr.str
      refine .inl ⟨_, rfl, by rw [sx_len]; exact sizeL_line hz, ?_⟩
      have e : cutS (sx s) lo hi = sx (cutD s lo hi) := by
        show (⟨_⟩ : Str) = _
        rw [sx_len]
        rfl
      rw [e]
      exact fin_fz hs k (.str _)
    · cases hc
  · rename_i ds
    simp only [slcD] at hc
    split at hc
    · cases hc
    · cases hc
      rename_i hz
      obtain ⟨a, vs, rfl, h1, h2⟩ := hr.tup
      refine .inr (.inr ⟨a, vs, rfl, sqT_sub hs h1, ?_, new_tup hs k (cut h2)⟩)
      rw [h2.length]
      exact hz
  · obtain ⟨a, vs, rfl, h1, h2⟩ := hr.lst hs
    exact .inr (.inl ⟨a, vs, rfl, SqL.of h1, new_lst hs k (cut h2)⟩)
  · obtain ⟨a, vs, rfl, h1, h2⟩ := hr.frl
    exact .inr (.inl ⟨a, vs, rfl, sqL_sub hs h1, new_lst hs k (cut h2)⟩)
theorem sE_slc {a : Expr} {lo hi : Option Expr} {p2 pos : Pos} {ma : E} {ml mh : OE} (hK : X.K = T.K) (ha : PE X a (rdA T W ma)) (hl : PO X lo (rdO T W ml)) (hh : PO X hi (rdO T W mh)) :
    PE X (.Subscript a (.Slice lo hi none p2) pos) (rdE T W (.slc ma ml mh)) := by
  refine PE.mono (pe_slice sl_any ha hl hh) fun σ H Q ⟨S, δ, G, h⟩ => ⟨S, δ, G, ?_⟩
  simp only [den] at h
  refine h.bind.mono fun x δ1 S1 H1 G1 s1 h1 v av => ⟨S1, δ1, G1, ?_⟩
  refine h1.bind.mono fun l δ2 S2 H2 G2 s2 h2 => ⟨S2, δ2, G2, ?_⟩
  refine h2.bind.mono fun u δ3 S3 H3 G3 s3 h3 => ?_
  obtain ⟨c, hc, k⟩ := prim_end G3 ((s1.trans s2).trans s3) h3
  cases q : res δ3 x with
  | none => rw [q] at hc; cases hc
  | some d =>
    rw [q] at hc
    rw [hK]
    exact slc_ok G3.sub ((av.sub (s2.ext.trans s3.ext)).rd G3 q) hc k

/-! ### join -/
theorem strs_rep {S : Hp} : ∀ {vs : List V} {ds : List D} {ys : List (List Nat)}, RepL T S vs ds → strsD ds = some ys → vs = (ys.map sx).map V.str
  | _, _, _, .nil, e => by simp only [strsD] at e; cases e; rfl
  | _, _, _, .cons (d := d) (ds := ds) a r, e => by
    cases d <;> first | (simp only [strsD] at e; cases e) | skip
    simp only [strsD] at e
    cases q : strsD ds with
    | none => rw [q] at e; cases e
    | some ys =>
      rw [q] at e
      cases e
      cases a
      rw [strs_rep r q]
      rfl
theorem joinL_eq (sep : List Nat) : ∀ ys : List (List Nat), Str.join (sx sep) (ys.map sx) = sx (joinL sep ys)
  | [] => rfl
  | [s] => rfl
  | s :: t :: r => by
    have h := joinL_eq sep (t :: r)
    show sx s ++ sx sep ++ Str.join (sx sep) ((t :: r).map sx) = sx (s ++ sep ++ joinL sep (t :: r))
    rw [h, sx_append, sx_append]
def rJoin (K : PySem.W.Frag) : V → List V → Hp → VK → Prop := fun x xs H Q => ∃ a p, ∃ ys : List Str, x = .str a ∧ xs = [.ref p] ∧ (SqL K H p (ys.map V.str) ∨ SqT K H p (ys.map V.str)) ∧
    (ys.map (·.length)).sum + ys.length * a.length ≤ 16777216 ∧ Q (.str (Txt.join a ys)) H
theorem s1_join : S1Ok T (m1 .join) (rJoin T.K) := by
  intro S H s w e c Q hs hr hc k
  cases e <;> first | (simp only [m1] at hc; cases hc) | skip
  rename_i ds
  simp only [m1] at hc
  cases q : strsD ds with
  | none => rw [q] at hc; cases hc
  | some ys =>
    rw [q] at hc
    simp only [] at hc
    split at hc
    · cases hc
      rename_i hz
      obtain ⟨a, vs, rfl, h1, h2⟩ := hr.lst hs
      have e := strs_rep h2 q
      subst e
      refine ⟨_, a, ys.map sx, rfl, rfl, .inl (SqL.of h1), ?_, ?_⟩
      · rw [sx_len, List.length_map, List.map_map]
        have : (fun x : Str => x.length) ∘ sx = List.length := by funext s; exact sx_len s
        rw [this]
        exact hz
      · rw [show Txt.join (sx s) (ys.map sx) = Str.join (sx s) (ys.map sx) from StrLaws.glued_eq_join _ _, joinL_eq]
        exact fin_fz hs k (.str _)
    · cases hc

theorem sx_cps (z : Str) : sx (cpsD z) = z := by simp [sx, cpsD]
theorem rep_str {S : Hp} (z : Str) : Rep T S (.str z) (.str (cpsD z)) := by
  have h := Rep.str (T := T) (S := S) (cpsD z)
  rw [sx_cps] at h
  exact h
theorem repL_strs {S : Hp} : ∀ zs : List Str, RepL T S (zs.map V.str) (zs.map fun z => .str (cpsD z))
  | [] => .nil
  | z :: zs => .cons (rep_str z) (repL_strs zs)
theorem s1_lstrip : S1Ok T (m1 .lstrip) fun x xs H Q => ∃ a b, x = .str a ∧ xs = [.str b] ∧ a.length ≤ sizeLine ∧ Q (.str (Txt.lstripChars a b)) H := by
  intro S H s w e c Q hs hr hc k
  cases e <;> first | (simp only [m1] at hc; cases hc) | skip
  obtain rfl := hr.str
  simp only [m1] at hc
  split at hc
  · cases hc
    rename_i hz
    exact ⟨_, _, rfl, rfl, by rw [sx_len]; exact sizeL_line hz, fin_fz hs k (rep_str _)⟩
  · cases hc
theorem s1_rmpre : S1Ok T (m1 .rmpre) fun x xs H Q => ∃ a b, x = .str a ∧ xs = [.str b] ∧ a.length ≤ sizeLine ∧ Q (.str (Txt.removeprefix a b)) H := by
  intro S H s w e c Q hs hr hc k
  cases e <;> first | (simp only [m1] at hc; cases hc) | skip
  obtain rfl := hr.str
  simp only [m1] at hc
  split at hc
  · cases hc
    rename_i hz
    exact ⟨_, _, rfl, rfl, by rw [sx_len]; exact sizeL_line hz, fin_fz hs k (rep_str _)⟩
  · cases hc
theorem s1_split : S1Ok T (m1 .split) fun x xs H Q => ∃ a b, x = .str a ∧ xs = [.str b] ∧ (b.length == 0) = false ∧ a.length + 2 ≤ sizeLine ∧ rNewStrs (Txt.split a b) H Q := by
  intro S H s w e c Q hs hr hc k
  cases e <;> first | (simp only [m1] at hc; cases hc) | skip
  obtain rfl := hr.str
  simp only [m1] at hc
  split at hc
  · cases hc
    rename_i hz
    refine ⟨_, _, rfl, rfl, by rw [sx_len]; simpa using hz.1, by rw [sx_len]; exact sizeL_line hz.2, ?_⟩
    exact new_lst hs k (repL_strs _)
  · cases hc
theorem s1_part : S1Ok T (m1 .part) fun x xs H Q => ∃ a b, x = .str a ∧ xs = [.str b] ∧ (b.length == 0) = false ∧ a.length ≤ sizeLine ∧
    ∀ p, H p = none → Q (.ref p) (upd H p (.tup [.str (Txt.partition a b).1, .str (Txt.partition a b).2.1, .str (Txt.partition a b).2.2])) := by
  intro S H s w e c Q hs hr hc k
  cases e <;> first | (simp only [m1] at hc; cases hc) | skip
  obtain rfl := hr.str
  simp only [m1] at hc
  split at hc
  · cases hc
    rename_i hz
    refine ⟨_, _, rfl, rfl, by rw [sx_len]; simpa using hz.1, by rw [sx_len]; exact sizeL_line hz.2, ?_⟩
    exact new_tup hs k (.cons (rep_str _) (.cons (rep_str _) (.cons (rep_str _) .nil)))
  · cases hc
theorem s1_find : S1Ok T (m1 .find) fun x xs H Q => ∃ a b, x = .str a ∧ xs = [.str b] ∧ Q (.int (Txt.find a b)) H := by
  intro S H s w e c Q hs hr hc k
  cases e <;> first | (simp only [m1] at hc; cases hc; done) | skip
  obtain rfl := hr.str
  simp only [m1] at hc
  cases hc
  exact ⟨_, _, rfl, rfl, fin_fz hs k (.int _)⟩
theorem s1_endswith : S1Ok T (m1 .endswith) fun x xs H Q => ∃ a b, x = .str a ∧ xs = [.str b] ∧ Q (.bl (Txt.endswith a b)) H := by
  intro S H s w e c Q hs hr hc k
  cases e <;> first | (simp only [m1] at hc; cases hc; done) | skip
  obtain rfl := hr.str
  simp only [m1] at hc
  cases hc
  exact ⟨_, _, rfl, rfl, fin_fz hs k (.bl _)⟩
theorem bls_rep {S : Hp} : ∀ {vs : List V} {ds : List D} {ys : List Bool}, RepL T S vs ds → blsD ds = some ys → vs = ys.map V.bl
  | _, _, _, .nil, e => by simp only [blsD] at e; cases e; rfl
  | _, _, _, .cons (d := d) (ds := ds) a r, e => by
    cases d <;> first | (simp only [blsD] at e; cases e) | skip
    simp only [blsD] at e
    cases q : blsD ds with
    | none => rw [q] at e; cases e
    | some ys =>
      rw [q] at e
      cases e
      cases a
      rw [bls_rep r q]
      rfl
theorem p1_all : P1Ok T (k1 .all) fun v H Q => rAll T.K [v] H Q := by
  intro S H v d c Q hs hr hc k
  cases d <;> first | cases hc | skip
  rename_i ds
  simp only [k1] at hc
  cases q : blsD ds with
  | none => rw [q] at hc; cases hc
  | some bs =>
    rw [q] at hc
    cases hc
    obtain ⟨a, vs, rfl, h1, h2⟩ := hr.lst hs
    have e := bls_rep h2 q
    subst e
    exact ⟨a, bs, rfl, SqL.of h1, fin_fz hs k (.bl _)⟩
theorem p1_any : P1Ok T (k1 .any) fun v H Q => rAny T.K [v] H Q := by
  intro S H v d c Q hs hr hc k
  cases d <;> first | cases hc | skip
  rename_i ds
  simp only [k1] at hc
  cases q : blsD ds with
  | none => rw [q] at hc; cases hc
  | some bs =>
    rw [q] at hc
    cases hc
    obtain ⟨a, vs, rfl, h1, h2⟩ := hr.lst hs
    have e := bls_rep h2 q
    subst e
    exact ⟨a, bs, rfl, SqL.of h1, fin_fz hs k (.bl _)⟩

/-! ### isinstance of plain values -/
def tyN : D → String
  | .int _ => "int"
  | .bl _ => "bool"
  | .str _ => "str"
  | .lst _ => "list"
  | .frl _ => "list"
  | .tup _ => "tuple"
  | .dct _ => "dict"
  | .non => "NoneType"
  | .obj _ _ => ""
def kiN : Ki → String
  | .int => "int"
  | .str => "str"
  | .bool => "bool"
  | .list => "list"
  | .tuple => "tuple"
  | .dict => "dict"
  | .cls _ => ""
theorem kitB_all : ∀ a ∈ ["int", "bool", "str", "list", "tuple", "dict", "NoneType"], ∀ b ∈ ["int", "str", "bool", "list", "tuple", "dict"], kitB a b = some (a == b || (a == "bool" && b == "int")) := by decide +kernel
theorem kitD {d : D} {k : Ki} {b : Bool} (h : kiD d k = some b) : kitB (tyN d) (kiN k) = some b := by
  cases d <;> cases k <;> (simp only [kiD] at h; first | (cases h; done) | (cases h; simp only [tyN, kiN]; refine (kitB_all _ (by decide) _ (by decide)).trans ?_; decide))
theorem tyX_of {S H : Hp} {v : V} {d : D} {k : Ki} {b : Bool} (hs : Sub S H) (hr : Rd1 T S H v d) (h : kiD d k = some b) : TyX T.K H v (.type (tyN d)) := by
  have hL : ∀ {a : Addr} {vs : List V}, SqL T.K S a vs → TyX T.K H (.ref a) (.type "list") := fun {a vs} q => by
    rcases q with (q | ⟨o, q⟩) | ⟨o, its, n, h1, h2, _⟩
    · exact .base (.lst (hs _ _ q))
    · exact .base (.frz (hs _ _ q))
    · exact .kList h1 h2
  have hT : ∀ {a : Addr} {vs : List V}, SqT T.K S a vs → TyX T.K H (.ref a) (.type "tuple") := fun {a vs} q => by
    rcases q with (q | ⟨o, q⟩) | ⟨o, its, n, h1, h2, _⟩
    · exact .base (.tup (hs _ _ q))
    · exact .fTuple (hs _ _ q)
    · exact .kTuple h1 h2
  rcases hr with hr | ⟨a, rfl, o⟩
  · cases hr with
    | non => exact .base .non
    | bl b => exact .base (.bl b)
    | int i => exact .base (.int i)
    | str s => exact .base (.str _)
    | tup h1 h2 => exact hT h1
    | lst h1 h2 => exact .base (.lst (hs _ _ h1))
    | frl h1 h2 => exact hL h1
    | dK h1 h2 => exact .base (.dK (hs _ _ h1))
    | dT h1 h2 => exact .base (.dT (hs _ _ h1))
    | obj h1 h2 => simp only [kiD] at h; cases h
  · cases o with
    | lst _ h2 _ => exact .base (.lst h2)
    | dK _ h2 _ => exact .base (.dK h2)
    | dT _ h2 _ => exact .base (.dT h2)
    | obj _ _ _ => simp only [kiD] at h; cases h

/-- the classes that isinstance asks, as a list of names -/
def chkKis : List Ki → List Expr → Scope → Bool
  | [], [], _ => true
  | k :: ks, .Name x _ :: es, sc => (match k with | .cls _ => false | _ => true) && decide (x = Str.ofString (kiN k)) && decide (sc.names.lookup x = some .globalImplicit) && chkKis ks es sc
  | _, _, _ => false
theorem boot_ki {k : Ki} (h : ∀ c, k ≠ .cls c) : bootBuiltins (Str.ofString (kiN k)) = some (.type (kiN k)) := by
  cases k with
  | int => exact PyProof.Rows.boot_int
  | str => exact PyProof.Rows.boot_str
  | bool => exact PyProof.Rows.boot_bool
  | list => exact PyProof.Rows.boot_list
  | tuple => exact PyProof.Rows.boot_tuple
  | dict => exact PyProof.Rows.boot_dict
  | cls c => exact absurd rfl (h c)
theorem name_ki {k : Ki} (h : ∀ c, k ≠ .cls c) : Str.ofString (kiN k) ≠ "__name__" ∧ (Str.ofString (kiN k) == ("__debug__" : Str)) = false := by
  cases k with
  | cls c => exact absurd rfl (h c)
  | _ => exact ⟨by decide +kernel, by decide +kernel⟩
theorem pe_ki {k : Ki} {pos : Pos} (h : ∀ c, k ≠ .cls c) (hg : Gl X (Str.ofString (kiN k))) (hm : X.mg (Str.ofString (kiN k)) = none) : PE X (.Name (Str.ofString (kiN k)) pos) (tC (.ty (kiN k))) :=
  pe_bltn hg hm (boot_ki h) rfl (name_ki h).1 (name_ki h).2
theorem pa_kis {sc : Scope} (hsc : ∀ x, sc.names.lookup x = some .globalImplicit → Gl X x) : ∀ {ks : List Ki} {es : List Expr}, (∀ k ∈ ks, X.mg (Str.ofString (kiN k)) = none) → chkKis ks es sc = true →
    PA X es fun _ H Q => Q (ks.map fun k => V.ty (kiN k)) H
  | [], [], _, _ => pa_nil
  | [], _ :: _, _, h => by simp [chkKis] at h
  | k :: ks, [], _, h => by simp [chkKis] at h
  | k :: ks, e :: es, hmg, h => by
    cases e <;> first | (simp [chkKis] at h; done) | skip
    simp only [chkKis, Bool.and_eq_true, decide_eq_true_eq] at h
    obtain ⟨⟨⟨h1, rfl⟩, h3⟩, h4⟩ := h
    have hk : ∀ c, k ≠ .cls c := fun c q => by subst q; cases h1
    exact pa_cons (pe_ki hk (hsc _ h3) (hmg k List.mem_cons_self)) (pa_kis hsc (fun k h => hmg k (List.mem_cons_of_mem _ h)) h4)
theorem kits {S H : Hp} {v : V} {d : D} (hs : Sub S H) (hr : Rd1 T S H v d) : ∀ {ks : List Ki} {b : Bool}, (∀ k ∈ ks, ∀ c, k ≠ .cls c) → kisD d ks = some b → PySem.W.kitAny T.K (.type (tyN d)) (ks.map fun k => Value.type (kiN k)) = some b
  | [], b, _, h => by simp only [kisD] at h; cases h; exact kitAny_nil
  | k :: ks, b, hk, h => by
    simp only [kisD] at h
    cases q : kiD d k with
    | none => rw [q] at h; cases h
    | some b1 =>
      rw [q] at h
      have h1 : PySem.W.kitOne T.K (.type (tyN d)) (.type (kiN k)) = some b1 := kit_ty (kitD q)
      refine kitAny_cons h1 (fun e => ?_) (fun e => ?_)
      · subst e
        exact kits hs hr (fun k' h' => hk k' (List.mem_cons_of_mem _ h')) h
      · subst e
        cases h
        rfl
/-- isinstance(x, T) -/
theorem sE_isi1 {a : Expr} {k : Ki} {p p' pos : Pos} {ma : E} (hK : X.K = T.K) (hk : ∀ c, k ≠ .cls c) (hg : Gl X "isinstance") (hm : X.mg "isinstance" = none) (hg' : Gl X (Str.ofString (kiN k))) (hm' : X.mg (Str.ofString (kiN k)) = none)
    (ha : PE X a (rdA T W ma)) (hs : notStar a = true) : PE X (.Call (.Name "isinstance" p) [a, .Name (Str.ofString (kiN k)) p'] [] pos) (rdE T W (.isi ma true [k])) := by
  refine PE.mono (pe_callB call_isi hg hm PyProof.Rows.boot_isinstance (pa_cons ha (pa_cons (pe_ki hk hg' hm') pa_nil) (star1 hs)) (by decide) (by decide) (star1 hs) rfl) fun σ H Q ⟨S, δ, G, h⟩ => ⟨S, δ, G, ?_⟩
  simp only [den] at h
  refine h.bind.mono fun x δ1 S1 H1 G1 s1 h1 v av => ?_
  obtain ⟨c, hc, kk⟩ := prim_end G1 s1 h1
  cases q : res δ1 x with
  | none => rw [q] at hc; cases hc
  | some d =>
    rw [q] at hc
    have hc : (kisD d [k]).map (fun b => R.fz (.bl b)) = some c := hc
    cases q1 : kiD d k with
    | none => simp only [kisD, q1] at hc; cases hc
    | some b =>
      have e : kisD d [k] = some b := by simp only [kisD, q1]; cases b <;> rfl
      rw [e] at hc
      cases hc
      have hr := av.rd G1 q
      refine ⟨v, _, _, _, b, rfl, .ty _, by rw [hK]; exact tyX_of G1.sub hr q1, kit_ty (kitD q1), fin_fz G1.sub kk (.bl _)⟩
/-- isinstance(x, (T1, T2, ..)) -/
theorem sE_isiT {a : Expr} {ks : List Ki} {es : List Expr} {n : Nat} {p p' pos : Pos} {ma : E} {sc : Scope} (hK : X.K = T.K) (hsc : ∀ x, sc.names.lookup x = some .globalImplicit → Gl X x) (hmg : ∀ k ∈ ks, X.mg (Str.ofString (kiN k)) = none)
    (hc : chkKis ks es sc = true) (hne : ks ≠ []) (hg : Gl X "isinstance") (hm : X.mg "isinstance" = none) (ha : PE X a (rdA T W ma)) (hs : notStar a = true) (hl : ks.length ≤ 1000) :
    PE X (.Call (.Name "isinstance" p) [a, .Tuple es n p'] [] pos) (rdE T W (.isi ma false ks)) := by
  have hks : ∀ {ks : List Ki} {es : List Expr}, chkKis ks es sc = true → ∀ k ∈ ks, ∀ c, k ≠ .cls c := by
    intro ks
    induction ks with
    | nil => intro es _ k hk; cases hk
    | cons k0 ks ih =>
      intro es h k hk c
      cases es with
      | nil => simp [chkKis] at h
      | cons e es =>
        cases e <;> first | (simp [chkKis] at h; done) | skip
        simp only [chkKis, Bool.and_eq_true, decide_eq_true_eq] at h
        rcases List.mem_cons.mp hk with rfl | hk
        · intro q; subst q; cases h.1.1.1
        · exact ih h.2 k hk c
  refine PE.mono (pe_callB call_isiT hg hm PyProof.Rows.boot_isinstance (pa_cons ha (pa_cons (pe_tup (pa_kis hsc hmg hc)) pa_nil) (star1 hs)) (by decide) (by decide) (star1 hs) rfl) fun σ H Q ⟨S, δ, G, h⟩ => ⟨S, δ, G, ?_⟩
  simp only [den] at h
  refine h.bind.mono fun x δ1 S1 H1 G1 s1 h1 v av => ?_
  obtain ⟨c, hc', kk⟩ := prim_end G1 s1 h1
  cases q : res δ1 x with
  | none => rw [q] at hc'; cases hc'
  | some d =>
    rw [q] at hc'
    have hc' : (kisD d ks).map (fun b => R.fz (.bl b)) = some c := hc'
    cases q1 : kisD d ks with
    | none => rw [q1] at hc'; cases hc'
    | some b =>
      rw [q1] at hc'
      cases hc'
      have hr := av.rd G1 q
      refine ⟨by rw [List.length_map]; exact Nat.le_trans hl (by rw [sizeLine_eq]; decide), fun t ht => ?_⟩
      have g : Grow S1 H1 S1 (upd H1 t (.tup (ks.map fun k => V.ty (kiN k)))) := .mine G1.sub ht
      have hr' : Rd1 T S1 (upd H1 t (.tup (ks.map fun k => V.ty (kiN k)))) v d := by
        rcases hr with hr | ⟨a, e, o⟩
        · exact .inl hr
        · exact .inr ⟨a, e, o.grow g⟩
      have ty : TyX T.K (upd H1 t (.tup (ks.map fun k => V.ty (kiN k)))) v (.type (tyN d)) := by
        cases ks with
        | nil => exact absurd rfl hne
        | cons k0 ks0 =>
          simp only [kisD] at q1
          cases q2 : kiD d k0 with
          | none => rw [q2] at q1; cases q1
          | some b0 => exact tyX_of g.sub hr' q2
      refine ⟨v, t, _, _, _, b, rfl, upd_same, ?_, by rw [hK]; exact ty, by rw [hK]; exact kits g.sub hr' (hks hc) q1, kk _ _ _ g (.bl _)⟩
      have : ∀ ks : List Ki, Paired ClsV (ks.map fun k => V.ty (kiN k)) (ks.map fun k => Value.type (kiN k)) := by
        intro ks
        induction ks with
        | nil => exact .nil
        | cons k ks ih => exact .cons (.ty _) ih
      exact this ks

/-! ### pop -/
theorem sE_pop {i : Nat} {x : Str} {np apos cpos : Pos} (hK : X.K = T.K) (hN : X.N[i]? = some x) (hv : Vis X.env.scope x) (hd : (x == ("__debug__" : Str)) = false) (hcd : (x == ("__classdict__" : Str)) = false) (hline : (apos.endLine == cpos.line) = true) :
    PE X (.Call (.Attribute (.Name x np) "pop" apos) [] [] cpos) (rdE T W (.pop i)) := by
  refine PE.mono (pe_bm0 PySem.F.plainAttrs_list PySem.F.slot_list_pop PySem.F.type_list_pop mt_pop (pe_var hN hv hd hcd) rfl hline) fun σ H Q ⟨S, δ, G, h⟩ => ?_
  cases q : slotD δ i with
  | none => simp only [den, q] at h; exact h.elim
  | some p =>
    obtain ⟨m, d⟩ := p
    cases d <;> first | (simp only [den, q] at h; exact h.elim) | skip
    rename_i ds
    simp only [den, q] at h
    by_cases hm : m = .ow ∨ m = .io
    · rw [if_pos hm] at h
      cases q2 : ds.getLast? with
      | none => rw [q2] at h; exact h.elim
      | some d =>
        rw [q2] at h
        obtain ⟨v, e1, _, e3⟩ := G.slot i m _ (slotD_get q)
        obtain ⟨a, rfl, o⟩ := e3 (by rcases hm with rfl | rfl <;> decide)
        cases o with
        | @lst vs _ h1 h2 h3 =>
          have hl : ds[ds.length - 1]? = some d := by rw [← List.getLast?_eq_getElem?]; exact q2
          obtain ⟨u, hu, ru⟩ := h3.get hl
          refine ⟨_, e1, .inl ⟨rfl, _, SqL.of h2⟩, a, vs, u, rfl, rfl, h2, by rw [h3.length]; exact hu, ?_⟩
          have nw : Own T S (upd H a (.lst vs.dropLast)) a (.lst ds.dropLast) := .lst h1 upd_same h3.dropLast
          obtain ⟨G2, s2⟩ := mutate G q hm e1 ⟨_, h2, by simp, by simp⟩ (fun b o hb hn _ => by rw [upd_ne hn]; exact hb) (fun b hb => by
            by_cases hba : b = a
            · subst hba; rw [upd_same] at hb; cases hb
            · rw [upd_ne hba] at hb; exact hb) nw (fun b o hb => by
            rw [upd_ne (fun z => by rw [z, h1] at hb; cases hb)]
            exact G.sub _ _ hb)
          exact h S _ G2 s2 u ru
    · rw [if_neg hm] at h
      exact h.elim
end
end Z

set_option Elab.async false
set_option linter.all false
set_option maxHeartbeats 1000000
/-! ZCall: a def called. -/
namespace Z
open PySem L2

/-- the arguments behind a call -/
def outX (xs : List (Md × D)) (outs : List D) : DSt := List.zipWith (fun x d => some (x.1, d)) xs outs
/-- a def's promise, by its meaning over data -/
def spF (T : Tab) (sem : List (Md × D) → OutF) : Sp := fun vs H Q E => ∃ S xs, (∀ x ∈ xs, x.1 = Md.fz ∨ x.1 = Md.io) ∧ Good T S H (xs.map some) (vs.map some) ∧ match sem xs with
  | .ok r outs => outs.length = xs.length ∧ ∀ v S' H', Good T S' H' (outX xs outs) (vs.map some) → Stp S H (xs.map some) (vs.map some) S' H' (outX xs outs) (vs.map some) → ResOk T H (xs.map some) S' H' (outX xs outs) (vs.map some) v r → Q v H'
  | .ex x outs => outs.length = xs.length ∧ ∀ cls d S' H', Good T S' H' (outX xs outs) (vs.map some) → Stp S H (xs.map some) (vs.map some) S' H' (outX xs outs) (vs.map some) → ExOk T S' cls d x → E cls d H'
  | .bad => False

section
variable {T : Tab} {W : WX} {X : Cx} {S H : Hp} {δ : DSt} {σ : St}
/-! ### the slots that are arguments -/
def isPk (i : Nat) : AR → Bool
  | .pk j => i == j
  | .val _ => false
theorem argsOf_cons_val {d : D} {r : List AR} {xs : List (Md × D)} (h : argsOf δ (.val d :: r) = some xs) : ∃ ys, argsOf δ r = some ys ∧ xs = (.fz, d) :: ys := by
  simp only [argsOf] at h
  cases q : argsOf δ r with
  | none => rw [q] at h; cases h
  | some ys => rw [q] at h; cases h; exact ⟨ys, rfl, rfl⟩
theorem argsOf_cons_pk {i : Nat} {r : List AR} {xs : List (Md × D)} (h : argsOf δ (.pk i :: r) = some xs) : ∃ y ys, argOf δ i = some y ∧ argsOf δ r = some ys ∧ xs = y :: ys ∧ ∀ j, AR.pk j ∈ r → i ≠ j := by
  simp only [argsOf] at h
  split at h
  · cases h
  · rename_i hn
    cases q : argOf δ i with
    | none => rw [q] at h; cases h
    | some y =>
      cases q' : argsOf δ r with
      | none => rw [q, q'] at h; cases h
      | some ys =>
        rw [q, q'] at h
        cases h
        refine ⟨y, ys, rfl, rfl, rfl, fun j hj e => hn ?_⟩
        subst e
        rw [List.any_eq_true]
        exact ⟨_, hj, by simp⟩
theorem argOf_some {i : Nat} {y : Md × D} (h : argOf δ i = some y) : ∃ m, slotD δ i = some (m, y.2) ∧ ((m = .fz ∧ y.1 = .fz) ∨ ((m = .ow ∨ m = .io) ∧ y.1 = .io)) := by
  unfold argOf at h
  split at h
  · cases h; exact ⟨_, by assumption, .inl ⟨rfl, rfl⟩⟩
  · cases h; exact ⟨_, by assumption, .inr ⟨.inl rfl, rfl⟩⟩
  · cases h; exact ⟨_, by assumption, .inr ⟨.inr rfl, rfl⟩⟩
  · cases h
/-- arguments and their values, one by one -/
inductive Args (T : Tab) (S : Hp) (δ : DSt) (σ : St) : List AR → List V → List (Md × D) → Prop
  | nil : Args T S δ σ [] [] []
  | val {d : D} {v : V} {r : List AR} {vs : List V} {xs : List (Md × D)} : Rep T S v d → Args T S δ σ r vs xs → Args T S δ σ (.val d :: r) (v :: vs) ((.fz, d) :: xs)
  | pk {i : Nat} {m m' : Md} {d : D} {v : V} {r : List AR} {vs : List V} {xs : List (Md × D)} : σ[i]? = some (some v) → slotD δ i = some (m, d) → ((m = .fz ∧ m' = .fz) ∨ ((m = .ow ∨ m = .io) ∧ m' = .io)) → (∀ j, AR.pk j ∈ r → i ≠ j) →
      Args T S δ σ r vs xs → Args T S δ σ (.pk i :: r) (v :: vs) ((m', d) :: xs)
theorem args_of : ∀ {as : List AR} {vs : List V} {xs : List (Md × D)}, argsOf δ as = some xs → vs.length = as.length → (∀ (i : Nat) (v : V) (x : AR), vs[i]? = some v → as[i]? = some x → ArOk T S σ v x) → Args T S δ σ as vs xs
  | [], [], xs, h, _, _ => by simp only [argsOf] at h; cases h; exact .nil
  | [], _ :: _, _, _, h, _ => by simp at h
  | _ :: _, [], _, _, h, _ => by simp at h
  | .val d :: r, v :: vs, xs, h, hl, ha => by
    obtain ⟨ys, h1, rfl⟩ := argsOf_cons_val h
    exact .val (ha 0 v _ rfl rfl) (args_of h1 (by simpa using hl) fun i v x e1 e2 => ha (i + 1) v x (by simpa using e1) (by simpa using e2))
  | .pk i :: r, v :: vs, xs, h, hl, ha => by
    obtain ⟨y, ys, h1, h2, rfl, h3⟩ := argsOf_cons_pk h
    obtain ⟨m, e1, e2⟩ := argOf_some h1
    obtain ⟨y1, y2⟩ := y
    exact .pk (ha 0 v _ rfl rfl) e1 e2 h3 (args_of h2 (by simpa using hl) fun i v x e1 e2 => ha (i + 1) v x (by simpa using e1) (by simpa using e2))
theorem Args.modes {as : List AR} {vs : List V} {xs : List (Md × D)} (h : Args T S δ σ as vs xs) : ∀ x ∈ xs, x.1 = Md.fz ∨ x.1 = Md.io := by
  induction h with
  | nil => intro x hx; cases hx
  | val _ _ ih =>
    intro x hx
    rcases List.mem_cons.mp hx with rfl | hx
    · exact .inl rfl
    · exact ih x hx
  | pk _ _ hm _ _ ih =>
    intro x hx
    rcases List.mem_cons.mp hx with rfl | hx
    · rcases hm with ⟨_, rfl⟩ | ⟨_, rfl⟩
      · exact .inl rfl
      · exact .inr rfl
    · exact ih x hx
theorem Args.length {as : List AR} {vs : List V} {xs : List (Md × D)} (h : Args T S δ σ as vs xs) : as.length = vs.length ∧ vs.length = xs.length := by
  induction h with
  | nil => exact ⟨rfl, rfl⟩
  | val _ _ ih => simp [ih.1, ih.2]
  | pk _ _ _ _ _ ih => simp [ih.1, ih.2]
/-- the k-th argument -/
theorem Args.at_ {as : List AR} {vs : List V} {xs : List (Md × D)} (h : Args T S δ σ as vs xs) : ∀ {k : Nat} {m' : Md} {d : D}, xs[k]? = some (m', d) → ∃ v, vs[k]? = some v ∧
    ((m' = .fz ∧ as[k]? = some (.val d) ∧ Rep T S v d) ∨ ∃ i m, as[k]? = some (.pk i) ∧ σ[i]? = some (some v) ∧ slotD δ i = some (m, d) ∧ ((m = .fz ∧ m' = .fz) ∨ ((m = .ow ∨ m = .io) ∧ m' = .io))) := by
  induction h with
  | nil => intro k m' d e; simp at e
  | val hr _ ih =>
    intro k m' d e
    cases k with
    | zero => simp at e; obtain ⟨rfl, rfl⟩ := e; exact ⟨_, rfl, .inl ⟨rfl, rfl, hr⟩⟩
    | succ k => simpa using ih (k := k) (by simpa using e)
  | pk h1 h2 h3 _ _ ih =>
    intro k m' d e
    cases k with
    | zero => simp at e; obtain ⟨rfl, rfl⟩ := e; exact ⟨_, rfl, .inr ⟨_, _, rfl, h1, h2, h3⟩⟩
    | succ k => simpa using ih (k := k) (by simpa using e)
theorem Args.uniq {as : List AR} {vs : List V} {xs : List (Md × D)} (h : Args T S δ σ as vs xs) : ∀ {k l i : Nat}, as[k]? = some (.pk i) → as[l]? = some (.pk i) → k = l := by
  induction h with
  | nil => intro k l i e; simp at e
  | val _ _ ih =>
    intro k l i e1 e2
    cases k with
    | zero => simp at e1
    | succ k =>
      cases l with
      | zero => simp at e2
      | succ l => exact congrArg (· + 1) (ih (i := i) (by simpa using e1) (by simpa using e2))
  | pk _ _ _ hu _ ih =>
    intro k l i e1 e2
    cases k with
    | zero =>
      cases l with
      | zero => rfl
      | succ l =>
        simp at e1 e2
        subst e1
        exact absurd rfl (hu _ (List.mem_of_getElem? e2))
    | succ k =>
      cases l with
      | zero =>
        simp at e1 e2
        subst e2
        exact absurd rfl (hu _ (List.mem_of_getElem? e1))
      | succ l => exact congrArg (· + 1) (ih (i := i) (by simpa using e1) (by simpa using e2))
theorem map_some_get {α : Type} {xs : List α} {k : Nat} {y : Option α} (h : (xs.map some)[k]? = some y) : ∃ x, y = some x ∧ xs[k]? = some x := by
  rw [List.getElem?_map] at h
  cases q : xs[k]? with
  | none => rw [q] at h; cases h
  | some x => rw [q] at h; cases h; exact ⟨x, rfl, rfl⟩
theorem map_some_of {α : Type} {xs : List α} {k : Nat} {x : α} (h : xs[k]? = some x) : (xs.map some)[k]? = some (some x) := by
  rw [List.getElem?_map, h]; rfl
/-- what the callee sees -/
theorem Args.good {as : List AR} {vs : List V} {xs : List (Md × D)} (G : Good T S H δ σ) (h : Args T S δ σ as vs xs) : Good T S H (xs.map some) (vs.map some) := by
  have key : ∀ {k : Nat} {m' : Md} {d : D} {a : Addr}, xs[k]? = some (m', d) → m' ≠ .fz → vs[k]? = some (.ref a) → ∃ i m, as[k]? = some (.pk i) ∧ σ[i]? = some (some (.ref a)) ∧ slotD δ i = some (m, d) ∧ (m = .ow ∨ m = .io) := fun {k m' d a} e hm ev => by
    obtain ⟨v, e1, e2⟩ := h.at_ e
    rw [ev] at e1; cases e1
    rcases e2 with ⟨z, _⟩ | ⟨i, m, z1, z2, z3, z4⟩
    · exact absurd z hm
    · rcases z4 with ⟨_, z⟩ | ⟨z, _⟩
      · exact absurd z hm
      · exact ⟨i, m, z1, z2, z3, z⟩
  refine ⟨G.sub, by simp [h.length.2], fun k m' d e => ?_, fun k l a x y => ?_, G.nown⟩
  · obtain ⟨x, e0, e⟩ := map_some_get e
    cases e0
    obtain ⟨v, e1, e2⟩ := h.at_ e
    refine ⟨v, map_some_of e1, fun hm => ?_, fun hm => ?_⟩
    · rcases e2 with ⟨_, _, z⟩ | ⟨i, m, z1, z2, z3, z4⟩
      · exact z
      · rcases z4 with ⟨rfl, _⟩ | ⟨_, z⟩
        · obtain ⟨v', q1, q2, _⟩ := G.slot i _ d (slotD_get z3)
          rw [z2] at q1; cases q1
          exact q2 rfl
        · rw [hm] at z; cases z
    · rcases e2 with ⟨z, _⟩ | ⟨i, m, z1, z2, z3, z4⟩
      · exact absurd z hm
      · rcases z4 with ⟨_, z⟩ | ⟨z, _⟩
        · exact absurd z hm
        · obtain ⟨v', q1, _, q3⟩ := G.slot i _ d (slotD_get z3)
          rw [z2] at q1; cases q1
          exact q3 (by rcases z with rfl | rfl <;> decide)
  · obtain ⟨m1, d1, e1, q1, r1⟩ := x
    obtain ⟨m2, d2, e2, q2, r2⟩ := y
    obtain ⟨_, e0, e1⟩ := map_some_get e1
    cases e0
    obtain ⟨_, e0, e2⟩ := map_some_get e2
    cases e0
    obtain ⟨_, e0, r1⟩ := map_some_get r1
    cases e0
    obtain ⟨_, e0, r2⟩ := map_some_get r2
    cases e0
    obtain ⟨i, m, z1, z2, z3, z4⟩ := key e1 q1 r1
    obtain ⟨j, m', y1, y2, y3, y4⟩ := key e2 q2 r2
    have hij : i = j := G.inj i j a ⟨m, d1, slotD_get z3, by rcases z4 with rfl | rfl <;> decide, z2⟩ ⟨m', d2, slotD_get y3, by rcases y4 with rfl | rfl <;> decide, y2⟩
    subst hij
    exact h.uniq z1 y1
/-- the callee changes objects of ours alone -/
theorem Args.mutA {as : List AR} {vs : List V} {xs : List (Md × D)} (h : Args T S δ σ as vs xs) {b : Addr} (m : MutA (xs.map some) (vs.map some) b) : ∃ (k i : Nat) (m : Md) (d : D), as[k]? = some (AR.pk i) ∧ xs[k]? = some (Md.io, d) ∧ slotD δ i = some (m, d) ∧ (m = .ow ∨ m = .io) ∧ σ[i]? = some (some (.ref b)) := by
  obtain ⟨k, m', d, e1, e2, e3⟩ := m
  obtain ⟨_, e0, e1⟩ := map_some_get e1
  cases e0
  obtain ⟨_, e0, e3⟩ := map_some_get e3
  cases e0
  obtain ⟨v, q1, q2⟩ := h.at_ e1
  rw [e3] at q1; cases q1
  rcases q2 with ⟨z, _⟩ | ⟨i, m, z1, z2, z3, z4⟩
  · subst z; rcases e2 with z | z <;> cases z
  · rcases z4 with ⟨_, z⟩ | ⟨z, z'⟩
    · subst z; rcases e2 with z | z <;> cases z
    · subst z'; exact ⟨k, i, m, d, z1, e1, z3, z, z2⟩
theorem Args.mutA' {as : List AR} {vs : List V} {xs : List (Md × D)} (h : Args T S δ σ as vs xs) {b : Addr} (m : MutA (xs.map some) (vs.map some) b) : MutA δ σ b := by
  obtain ⟨_, i, m, d, _, _, e1, e2, e3⟩ := h.mutA m
  exact ⟨i, m, d, slotD_get e1, e2, e3⟩
theorem Args.nomov {as : List AR} {vs : List V} {xs : List (Md × D)} (h : Args T S δ σ as vs xs) {b : Addr} (m : MovA (xs.map some) (vs.map some) b) : False := by
  obtain ⟨k, d, e1, _⟩ := m
  obtain ⟨_, e0, e1⟩ := map_some_get e1
  cases e0
  have := h.modes _ (List.mem_of_getElem? e1)
  rcases this with z | z <;> cases z

/-! ### behind the call -/
theorem backTo_spec : ∀ {as : List AR} {outs : List D} {δ δ' : DSt}, backTo δ as outs = some δ' → (∀ (i : Nat), AR.pk i ∈ as → ∃ x, slotD δ i = some x) →
    (∀ {k l i : Nat}, as[k]? = some (AR.pk i) → as[l]? = some (AR.pk i) → k = l) →
    δ'.length = δ.length ∧ (∀ j, (∀ (k : Nat), as[k]? ≠ some (AR.pk j)) → δ'[j]? = δ[j]?) ∧
    (∀ (k j : Nat) (o : D) (m : Md) (d : D), as[k]? = some (AR.pk j) → outs[k]? = some o → slotD δ j = some (m, d) → δ'[j]? = if m = .fz then δ[j]? else some (some (m, o)))
  | [], [], δ, δ', h, _, _ => by
    simp only [backTo] at h; cases h
    exact ⟨rfl, fun _ _ => rfl, fun k j o m d e => by simp at e⟩
  | [], _ :: _, _, _, h, _, _ => by simp only [backTo] at h; cases h
  | .val _ :: _, [], _, _, h, _, _ => by simp only [backTo] at h; cases h
  | .pk _ :: _, [], _, _, h, _, _ => by simp only [backTo] at h; cases h
  | .val d0 :: r, o0 :: os, δ, δ', h, hs, hu => by
    simp only [backTo] at h
    obtain ⟨a, b, c⟩ := backTo_spec h (fun i hi => hs i (List.mem_cons_of_mem _ hi)) (fun {k l i} e1 e2 => by
      have := hu (k := k + 1) (l := l + 1) (i := i) (by simpa using e1) (by simpa using e2)
      omega)
    refine ⟨a, fun j hj => b j fun k e => hj (k + 1) (by simpa using e), fun k j o m d e1 e2 e3 => ?_⟩
    cases k with
    | zero => simp at e1
    | succ k => exact c k j o m d (by simpa using e1) (by simpa using e2) e3
  | .pk i :: r, o0 :: os, δ, δ', h, hs, hu => by
    obtain ⟨⟨m0, d0⟩, hx⟩ := hs i List.mem_cons_self
    have hi : ∀ k : Nat, r[k]? ≠ some (AR.pk i) := fun k e => by
      have := hu (k := 0) (l := k + 1) (i := i) rfl (by simpa using e)
      omega
    have hu' : ∀ {k l i : Nat}, r[k]? = some (AR.pk i) → r[l]? = some (AR.pk i) → k = l := fun {k l i} e1 e2 => by
      have := hu (k := k + 1) (l := l + 1) (i := i) (by simpa using e1) (by simpa using e2)
      omega
    by_cases hm : m0 = .fz
    · subst hm
      simp only [backTo, hx] at h
      obtain ⟨a, b, c⟩ := backTo_spec h (fun j hj => hs j (List.mem_cons_of_mem _ hj)) hu'
      refine ⟨a, fun j hj => b j fun k e => hj (k + 1) (by simpa using e), fun k j o m d e1 e2 e3 => ?_⟩
      cases k with
      | zero =>
        simp at e1
        subst e1
        rw [hx] at e3; cases e3
        rw [if_pos rfl]
        exact b i hi
      | succ k => exact c k j o m d (by simpa using e1) (by simpa using e2) e3
    · have h : backTo (δ.set i (some (m0, o0))) r os = some δ' := by
        simp only [backTo, hx] at h
        cases m0 <;> first | exact absurd rfl hm | exact h
      have hs' : ∀ j, AR.pk j ∈ r → ∃ x, slotD (δ.set i (some (m0, o0))) j = some x := fun j hj => by
        by_cases hij : i = j
        · subst hij
          exact ⟨_, slotD_set_self (slotD_lt hx) _⟩
        · rw [slotD_set_ne hij]
          exact hs j (List.mem_cons_of_mem _ hj)
      obtain ⟨a, b, c⟩ := backTo_spec h hs' hu'
      refine ⟨by rw [a, List.length_set], fun j hj => ?_, fun k j o m d e1 e2 e3 => ?_⟩
      · have nij : i ≠ j := fun z => hj 0 (by rw [z]; rfl)
        rw [b j fun k e => hj (k + 1) (by simpa using e), List.getElem?_set_ne nij]
      · cases k with
        | zero =>
          simp at e1 e2
          subst e1; subst e2
          rw [hx] at e3; cases e3
          rw [if_neg hm, b i hi, List.getElem?_set_self (slotD_lt hx)]
        | succ k =>
          have e1 : r[k]? = some (AR.pk j) := by simpa using e1
          have nij : i ≠ j := fun z => hi k (by rw [z]; exact e1)
          have := c k j o m d e1 (by simpa using e2) (by rw [slotD_set_ne nij]; exact e3)
          rw [this, List.getElem?_set_ne nij]

theorem Args.slots {as : List AR} {vs : List V} {xs : List (Md × D)} (h : Args T S δ σ as vs xs) : ∀ (i : Nat), AR.pk i ∈ as → ∃ x, slotD δ i = some x := by
  induction h with
  | nil => intro i hi; cases hi
  | val _ _ ih =>
    intro i hi
    rcases List.mem_cons.mp hi with z | hi
    · cases z
    · exact ih i hi
  | pk _ h2 _ _ _ ih =>
    intro i hi
    rcases List.mem_cons.mp hi with z | hi
    · cases z; exact ⟨_, h2⟩
    · exact ih i hi
theorem Args.pkAt {as : List AR} {vs : List V} {xs : List (Md × D)} (h : Args T S δ σ as vs xs) : ∀ {k i : Nat}, as[k]? = some (AR.pk i) → ∃ v m m' d, vs[k]? = some v ∧ xs[k]? = some (m', d) ∧ σ[i]? = some (some v) ∧ slotD δ i = some (m, d) ∧ ((m = Md.fz ∧ m' = Md.fz) ∨ ((m = Md.ow ∨ m = Md.io) ∧ m' = Md.io)) := by
  induction h with
  | nil => intro k i e; simp at e
  | val _ _ ih =>
    intro k i e
    cases k with
    | zero => simp at e
    | succ k => simpa using ih (k := k) (i := i) (by simpa using e)
  | pk h1 h2 h3 _ _ ih =>
    intro k i e
    cases k with
    | zero => simp at e; subst e; exact ⟨_, _, _, _, rfl, rfl, h1, h2, h3⟩
    | succ k => simpa using ih (k := k) (i := i) (by simpa using e)
theorem outX_get {xs : List (Md × D)} {outs : List D} {k : Nat} {m : Md} {d o : D} (h : xs[k]? = some (m, d)) (h' : outs[k]? = some o) : (outX xs outs)[k]? = some (some (m, o)) := by
  unfold outX
  rw [List.getElem?_zipWith, h, h']
theorem call_back {S' H' : Hp} {δ' : DSt} {as : List AR} {vs : List V} {xs : List (Md × D)} {outs : List D} (G : Good T S H δ σ) (A : Args T S δ σ as vs xs) (hb : backTo δ as outs = some δ') (hl : outs.length = xs.length)
    (G' : Good T S' H' (outX xs outs) (vs.map some)) (s : Stp S H (xs.map some) (vs.map some) S' H' (outX xs outs) (vs.map some)) : Good T S' H' δ' σ ∧ Stp S H δ σ S' H' δ' σ ∧ ∀ a, Owned δ' σ a → Owned δ σ a := by
  obtain ⟨len, other, args⟩ := backTo_spec hb A.slots A.uniq
  -- each slot behind the call
  have cases' : ∀ {j : Nat} {m : Md} {d' : D}, δ'[j]? = some (some (m, d')) → (δ[j]? = some (some (m, d')) ∧ (m = .fz ∨ ∀ k : Nat, as[k]? ≠ some (AR.pk j))) ∨
      (m ≠ .fz ∧ ∃ (k : Nat) (d : D) (v : V), as[k]? = some (AR.pk j) ∧ δ[j]? = some (some (m, d)) ∧ σ[j]? = some (some v) ∧ vs[k]? = some v ∧ (outX xs outs)[k]? = some (some (Md.io, d'))) := fun {j m d'} e => by
    by_cases hj : ∃ k : Nat, as[k]? = some (AR.pk j)
    · obtain ⟨k, hk⟩ := hj
      obtain ⟨v, m0, m', d, p1, p2, p3, p4, p5⟩ := A.pkAt hk
      have ho : k < outs.length := by
        rw [hl]
        exact (List.getElem?_eq_some_iff.mp p2).1
      have e' := args k j _ m0 d hk (List.getElem?_eq_getElem ho) p4
      by_cases hm : m0 = .fz
      · rw [if_pos hm] at e'
        rw [e'] at e
        have := slotD_get p4
        rw [this] at e
        cases e
        exact .inl ⟨this, .inl hm⟩
      · rw [if_neg hm] at e'
        rw [e'] at e
        cases e
        rcases p5 with ⟨z, _⟩ | ⟨_, rfl⟩
        · exact absurd z hm
        · exact .inr ⟨hm, k, d, v, hk, slotD_get p4, p3, p1, outX_get p2 (List.getElem?_eq_getElem ho)⟩
    · have nk : ∀ k : Nat, as[k]? ≠ some (AR.pk j) := fun k e => hj ⟨k, e⟩
      rw [other j nk] at e
      exact .inl ⟨e, .inr nk⟩
  have notMut : ∀ {j : Nat} {m : Md} {d : D} {a : Addr}, δ[j]? = some (some (m, d)) → m ≠ .fz → σ[j]? = some (some (.ref a)) → (∀ k : Nat, as[k]? ≠ some (AR.pk j)) → ¬ MutA (xs.map some) (vs.map some) a := fun {j m d a} e hm es nk mu => by
    obtain ⟨k, i, m2, d2, z1, z2, z3, z4, z5⟩ := A.mutA mu
    have := G.inj j i a ⟨m, d, e, hm, es⟩ ⟨m2, d2, slotD_get z3, by rcases z4 with rfl | rfl <;> decide, z5⟩
    subst this
    exact nk k z1
  have calleeObj : ∀ {b : Addr} {o : HO}, MutA (xs.map some) (vs.map some) b → H b = some o → o ≠ .xd [] ∧ ∀ c, o ≠ .own c := fun {b o} mu hb => by
    obtain ⟨_, i, m2, d2, _, _, z3, z4, z5⟩ := A.mutA mu
    obtain ⟨d, ob⟩ := G.owned ⟨i, m2, d2, slotD_get z3, by rcases z4 with rfl | rfl <;> decide, z5⟩
    obtain ⟨_, u, hu, h1, h2⟩ := ob.there
    rw [hb] at hu; cases hu
    exact ⟨h1, h2⟩
  refine ⟨⟨G'.sub, by rw [len]; exact G.len, fun j m d' e => ?_, fun i j a x y => ?_, G'.nown⟩, ⟨⟨s.ext, fun b o e n k => ?_, fun b o e => ?_, fun b mu => ?_, fun b mv => ?_, s.dom⟩, fun j m d' e h => ?_⟩, fun a ⟨i, m, d, e1, e2, e3⟩ => ?_⟩
  · rcases cases' e with ⟨e1, e2⟩ | ⟨hm, k, d, v, hk, e1, e2, e3, e4⟩
    · obtain ⟨v, q1, q2, q3⟩ := G.slot j m d' e1
      refine ⟨v, q1, fun z => (q2 z).sub s.ext, fun z => ?_⟩
      obtain ⟨a, rfl, o⟩ := q3 z
      refine ⟨a, rfl, ?_⟩
      have nk : ∀ k : Nat, as[k]? ≠ some (AR.pk j) := by
        rcases e2 with w | w
        · exact absurd w z
        · exact w
      have nm := notMut e1 z q1 nk
      obtain ⟨o1, u, hu, hu1, hu2⟩ := o.there
      have keepA : H' a = some u := s.keep a u hu nm fun c w => absurd w (hu2 c)
      refine o.at_ ?_ s.ext (fun w hw => by rw [hu] at hw; cases hw; exact keepA) fun b hb => ?_
      · cases w : S' a with
        | none => rfl
        | some x =>
          have hx := G'.sub a x w
          rw [keepA] at hx; cases hx
          rcases s.new a _ w with z1 | ⟨z1 | z1 | z1, _⟩
          · rw [o1] at z1; cases z1
          · rw [hu] at z1; cases z1
          · exact (A.nomov z1).elim
          · exact absurd z1 hu1
      · rcases hb with hb | hb
        · rw [hb]
          exact s.keep b _ hb (fun mu => (calleeObj mu hb).1 rfl) (by simp)
        · rw [hb]
          refine s.keep b _ hb (fun mu => (calleeObj mu hb).2 a rfl) fun c w => ?_
          cases w
          exact ⟨nm, by rw [hu]; simp⟩
    · obtain ⟨v', q1, _, q3⟩ := G'.slot k _ d' e4
      have := map_some_of e3
      rw [this] at q1; cases q1
      exact ⟨v, e2, fun z => absurd z hm, fun _ => q3 (by decide)⟩
  · have back : ∀ {i : Nat}, OwnAt δ' σ i a → OwnAt δ σ i a := fun {i} ⟨m, d, e1, e2, e3⟩ => by
      rcases cases' e1 with ⟨w, _⟩ | ⟨_, k, d0, v, _, w, _⟩
      · exact ⟨m, d, w, e2, e3⟩
      · exact ⟨m, d0, w, e2, e3⟩
    exact G.inj i j a (back x) (back y)
  · exact s.keep b o e (fun m => n (A.mutA' m)) fun c q => ⟨fun m => (k c q).1 (A.mutA' m), (k c q).2⟩
  · rcases s.new b o e with z | ⟨z | z | z, w⟩
    · exact .inl z
    · exact .inr ⟨.inl z, w⟩
    · exact (A.nomov z).elim
    · exact .inr ⟨.inr (.inr z), w⟩
  · obtain ⟨i, m, d, e1, e2, e3⟩ := mu
    rcases cases' e1 with ⟨w, _⟩ | ⟨_, k, d0, v, _, w, _⟩
    · exact .inl ⟨i, m, d, w, e2, e3⟩
    · exact .inl ⟨i, m, d0, w, e2, e3⟩
  · obtain ⟨i, d, e1, e3⟩ := mv
    rcases cases' e1 with ⟨w, _⟩ | ⟨_, k, d0, v, _, w, _⟩
    · exact .inl ⟨i, d, w, e3⟩
    · exact .inl ⟨i, d0, w, e3⟩
  · rcases cases' e with ⟨w, _⟩ | ⟨hm, k, d0, v, hk, w, _⟩
    · exact ⟨rfl, d', w, fun _ => rfl⟩
    · refine ⟨rfl, d0, w, fun z => ?_⟩
      subst z
      obtain ⟨v1, m0, m', d1, p1, p2, p3, p4, p5⟩ := A.pkAt hk
      rw [slotD_get p4] at w
      cases w
      rcases p5 with ⟨z, _⟩ | ⟨z | z, _⟩ <;> cases z
  · rcases cases' e1 with ⟨w, _⟩ | ⟨_, k, d0, v, _, w, _⟩
    · exact ⟨i, m, d, w, e2, e3⟩
    · exact ⟨i, m, d0, w, e2, e3⟩

/-! ### the call -/
theorem sAs_nil : PA X [] (rdAs T W .nil) := by
  refine PA.mono pa_nil fun σ H Q ⟨S, δ, G, h⟩ => ?_
  simp only [denAs] at h
  exact h S H G (.refl ..) [] rfl fun i v x e => by simp at e
theorem sAs_ev {e : Expr} {es : List Expr} {m : E} {ms : As} (he : PE X e (rdE T W m)) (hs : PA X es (rdAs T W ms)) (hst : notStar e = true) : PA X (e :: es) (rdAs T W (.ev m ms)) := by
  refine PA.mono (pa_cons he hs (star1 hst)) fun σ H Q ⟨S, δ, G, h⟩ => ⟨S, δ, G, ?_⟩
  simp only [denAs] at h
  refine h.bindS.mono fun r δ1 S1 H1 G1 s1 h1 v hr => ?_
  obtain ⟨x, S2, e1, G2, s2, a, k⟩ := frz_ok G1 s1 hr h1.bindS
  refine ⟨S2, δ1, G2, ?_⟩
  refine (k.back s2).bind.mono fun xs δ3 S3 H3 G3 s3 h3 vs hl hvs => ?_
  refine OutP.here G3 h3 (v :: vs) (by simp [hl]) fun i u y e1 e2 => ?_
  cases i with
  | zero => simp at e1 e2; subst e1; subst e2; exact a.sub s3.ext
  | succ i => exact hvs i u y (by simpa using e1) (by simpa using e2)
theorem sAs_pk {x : Str} {pos : Pos} {i : Nat} {es : List Expr} {ms : As} (hN : X.N[i]? = some x) (hv : Vis X.env.scope x) (hd : (x == ("__debug__" : Str)) = false) (hcd : (x == ("__classdict__" : Str)) = false) (hs : PA X es (rdAs T W ms)) : PA X (.Name x pos :: es) (rdAs T W (.pk i ms)) := by
  refine PA.mono (pa_cons (pe_var hN hv hd hcd) hs (star1 rfl)) fun σ H Q ⟨S, δ, G, h⟩ => ?_
  cases q : slotD δ i with
  | none => simp only [denAs, q] at h; exact h.elim
  | some p =>
    obtain ⟨m, d⟩ := p
    simp only [denAs, q] at h
    obtain ⟨v, e1, _⟩ := G.slot i _ d (slotD_get q)
    refine ⟨v, e1, S, δ, G, ?_⟩
    refine h.bind.mono fun xs δ3 S3 H3 G3 s3 h3 vs hl hvs => ?_
    refine OutP.here G3 h3 (v :: vs) (by simp [hl]) fun k u y e1' e2 => ?_
    cases k with
    | zero => simp at e1' e2; subst e1'; subst e2; exact e1
    | succ k => exact hvs k u y (by simpa using e1') (by simpa using e2)
theorem stars {env : Env} : ∀ {es : List Expr}, es.all notStar = true → (∀ pos, (PySem.backTo pos (starEach es env)).any (·.1) = false)
  | [], _, _ => rfl
  | e :: es, h, pos => by
    rw [List.all_cons, Bool.and_eq_true] at h
    rw [star1 h.1]
    show (false || (PySem.backTo pos (starEach es env)).any (·.1)) = false
    rw [stars h.2 pos]
    rfl
theorem run_fnZ {pins : List (Addr × Obj)} {s : Shared} {lv : Nat} {f : Addr} {sp : Sp} {Q : VK} {us : List Value} {vs : List V} (F : FnR X.prog X.w X.K X.mg X.base (L2.CX X.prog X.w) lv f sp) (hr : Room lv X.A) (tk : Takes X W) (I : Inv X pins σ H s) (r : Vals vs us)
    (h : sp vs H Q fun cls d H' => W cls d σ H') : wpAny (model X.prog X.w) X.A (call (.ref f) us) (EP X pins σ Q) X.xe s := by
  refine wpAny_call (codeAny_mono (F X.A X.stack s H us vs Q _ hr I.env0 r h) fun r s' hq => ?_)
  cases r with
  | error e => exact tk _ _ (XE.of_call I (fun _ _ _ z => z) hq)
  | ok fl =>
    cases fl with
    | ret u => exact I.after hq
    | next => exact False.elim hq
    | brk => exact False.elim hq
    | cont => exact False.elim hq
/-- a def that keeps its promise, called by its name -/
theorem pe_callZ {lv : Nat} {f : Addr} {sp : Sp} {x : Str} {p pos : Pos} {e : Expr} {es : List Expr} {t : TA} (F : FnR X.prog X.w X.K X.mg X.base (L2.CX X.prog X.w) lv f sp) (hr : Room lv X.A) (hg : Gl X x) (hm : X.mg x = some (.ref f)) (hk : PySem.W.keepIn X.K (.ref f) = true) (tk : Takes X W)
    (ha : PA X (e :: es) t) (hdb : (x == ("__debug__" : Str)) = false) (hst : (e :: es).all notStar = true) :
    PE X (.Call (.Name x p) (e :: es) [] pos) (fun σ H Q => t σ H fun vs H1 => sp vs H1 Q (fun cls d H' => W cls d σ H')) := by
  refine ⟨fun pins s σ H Q I h => ?_⟩
  refine wpAny_Call_Name_kw (ld_glob I hg hm ?_ hdb)
  rw [List.all_cons, Bool.and_eq_true] at hst
  refine PySem.W.callWith_K (h₀ := X.base) I.ok.mod.kin hk (thn (ha.run pos pins s σ H _ I h) fun us s1 ⟨vs, H1, I1, r, q⟩ => ⟨I1.kIn, ?_⟩) (star1 hst.1) (stars hst.2 pos)
  exact run_fnZ F hr tk I1 r q
theorem pe_callZ0 {lv : Nat} {f : Addr} {sp : Sp} {x : Str} {p pos : Pos} (F : FnR X.prog X.w X.K X.mg X.base (L2.CX X.prog X.w) lv f sp) (hr : Room lv X.A) (hg : Gl X x) (hm : X.mg x = some (.ref f)) (hk : PySem.W.keepIn X.K (.ref f) = true) (tk : Takes X W)
    (hdb : (x == ("__debug__" : Str)) = false) : PE X (.Call (.Name x p) [] [] pos) (fun σ H Q => sp [] H Q (fun cls d H' => W cls d σ H')) := by
  refine ⟨fun pins s σ H Q I h => ?_⟩
  refine wpAny_Call_Name_kw (ld_glob I hg hm ?_ hdb)
  exact PySem.W.callWith_K0 I.kIn hk (run_fnZ (us := []) F hr tk I .nil h)
theorem backTo_len : ∀ {as : List AR} {outs : List D} {δ δ' : DSt}, Z.backTo δ as outs = some δ' → outs.length = as.length
  | [], [], _, _, _ => rfl
  | [], _ :: _, _, _, h => by simp only [Z.backTo] at h; cases h
  | .val _ :: _, [], _, _, h => by simp only [Z.backTo] at h; cases h
  | .pk _ :: _, [], _, _, h => by simp only [Z.backTo] at h; cases h
  | .val d :: r, o :: os, δ, δ', h => by
    simp only [Z.backTo] at h
    simp [backTo_len h]
  | .pk i :: r, o :: os, δ, δ', h => by
    simp only [Z.backTo] at h
    split at h
    · simp [backTo_len h]
    · simp [backTo_len h]
    · cases h
/-- the call's reading from the meaning over data -/
theorem call_rd {f : Fn} {as : List AR} {vs : List V} {Q : VK} {S0 H0 : Hp} {δ0 : DSt} (G : Good T S H δ σ) (s0 : Stp S0 H0 δ0 σ S H δ σ) (hl : vs.length = as.length) (ha : ∀ (i : Nat) (v : V) (x : AR), vs[i]? = some v → as[i]? = some x → ArOk T S σ v x)
    (h : OutP T W σ S H δ (callD f as δ) fun r δ' S' H' => ∀ v, ResOk T H0 δ0 S' H' δ' σ v r → Q v H') : spF T f.sem vs H Q (fun cls d H' => W cls d σ H') := by
  unfold callD at h
  cases q : argsOf δ as with
  | none => rw [q] at h; exact h.elim
  | some xs =>
    rw [q] at h
    have A := args_of (T := T) (S := S) q hl ha
    refine ⟨S, xs, A.modes, A.good G, ?_⟩
    cases q1 : f.sem xs with
    | bad => simp only [q1] at h; exact h.elim
    | ok r outs =>
      simp only [q1] at h
      cases q2 : Z.backTo δ as outs with
      | none => rw [q2] at h; exact h.elim
      | some δ' =>
        rw [q2] at h
        have hlen : outs.length = xs.length := (backTo_len q2).trans (A.length.1.trans A.length.2)
        refine ⟨hlen, fun v S' H' G' s hr => ?_⟩
        obtain ⟨G2, s2, ow⟩ := call_back G A q2 hlen G' s
        refine h S' H' G2 s2 v ?_
        cases r with
        | fz d => exact hr
        | fr d =>
          obtain ⟨a, rfl, o, n, w⟩ := hr
          have ha : H a = none := by
            rcases w with w | w
            · exact w
            · exact (A.nomov w).elim
          exact ⟨a, rfl, o, fun z => G.nowned ha (ow a z), .inl (s0.dom a ha)⟩
    | ex x outs =>
      simp only [q1] at h
      cases q2 : Z.backTo δ as outs with
      | none => rw [q2] at h; exact h.elim
      | some δ' =>
        rw [q2] at h
        have hlen : outs.length = xs.length := (backTo_len q2).trans (A.length.1.trans A.length.2)
        refine ⟨hlen, fun cls d S' H' G' s he => ?_⟩
        obtain ⟨G2, s2, ow⟩ := call_back G A q2 hlen G' s
        exact h cls d S' H' G2 s2 he
def rdC (T : Tab) (W : WX) (f : Fn) (ms : As) : TE := rdE T W (.call f ms)
theorem sE_call {lv : Nat} {fa : Addr} {x : Str} {p pos : Pos} {e : Expr} {es : List Expr} {f : Fn} {ms : As} (F : FnR X.prog X.w X.K X.mg X.base (L2.CX X.prog X.w) lv fa (spF T f.sem)) (hr : Room lv X.A) (hg : Gl X x) (hm : X.mg x = some (.ref fa)) (hk : PySem.W.keepIn X.K (.ref fa) = true) (tk : Takes X W)
    (ha : PA X (e :: es) (rdAs T W ms)) (hdb : (x == ("__debug__" : Str)) = false) (hst : (e :: es).all notStar = true) : PE X (.Call (.Name x p) (e :: es) [] pos) (rdE T W (.call f ms)) := by
  refine PE.mono (pe_callZ F hr hg hm hk tk ha hdb hst) fun σ H Q ⟨S, δ, G, h⟩ => ⟨S, δ, G, ?_⟩
  simp only [den] at h
  exact h.bind.mono fun xs δ1 S1 H1 G1 s1 h1 vs hl hvs => call_rd G1 s1 hl hvs h1
theorem sE_call0 {lv : Nat} {fa : Addr} {x : Str} {p pos : Pos} {f : Fn} (F : FnR X.prog X.w X.K X.mg X.base (L2.CX X.prog X.w) lv fa (spF T f.sem)) (hr : Room lv X.A) (hg : Gl X x) (hm : X.mg x = some (.ref fa)) (hk : PySem.W.keepIn X.K (.ref fa) = true) (tk : Takes X W)
    (hdb : (x == ("__debug__" : Str)) = false) : PE X (.Call (.Name x p) [] [] pos) (rdE T W (.call f .nil)) := by
  refine PE.mono (pe_callZ0 F hr hg hm hk tk hdb) fun σ H Q ⟨S, δ, G, h⟩ => ?_
  simp only [den, denAs] at h
  have h : OutP T W σ S H δ (callD f [] δ) _ := h
  exact call_rd (as := []) G (.refl ..) rfl (fun i v x e => by simp at e) h
end
end Z

set_option Elab.async false
set_option linter.all false
set_option maxHeartbeats 1000000
/-! ZStm: statements. -/
namespace Z
open PySem L2

def ResS (T : Tab) (H0 : Hp) (δ0 : DSt) (σ0 : St) (S H : Hp) (δ : DSt) (σ : St) (v : V) : R → Prop
  | .fz d => Rep T S v d
  | .fr d => ∃ a, v = .ref a ∧ Own T S H a d ∧ ¬ Owned δ σ a ∧ (H0 a = none ∨ MovA δ0 σ0 a)
section
variable (T : Tab) (W : WX)
def OutSP (S H : Hp) (δ : DSt) (σ : St) (o : OutS) (D : Ends) : Prop := match o with
  | .nx δ' => ∀ S' H' σ', Good T S' H' δ' σ' → Stp S H δ σ S' H' δ' σ' → D.nx σ' H'
  | .rt r δ' => ∀ S' H' σ' v, Good T S' H' δ' σ' → Stp S H δ σ S' H' δ' σ' → ResS T H δ σ S' H' δ' σ' v r → D.rt v H'
  | .bk δ' => ∀ S' H' σ', Good T S' H' δ' σ' → Stp S H δ σ S' H' δ' σ' → D.bk σ' H'
  | .ct δ' => ∀ S' H' σ', Good T S' H' δ' σ' → Stp S H δ σ S' H' δ' σ' → D.ct σ' H'
  | .ex x δ' => ∀ cls d S' H' σ', Good T S' H' δ' σ' → Stp S H δ σ S' H' δ' σ' → ExOk T S' cls d x → W cls d σ' H'
  | .bad => False
def rdS (m : St1) : TS := fun D σ H => ∃ S δ, Good T S H δ σ ∧ OutSP T W S H δ σ (denS m δ) D
def rdSs (m : Sts) : TS := fun D σ H => ∃ S δ, Good T S H δ σ ∧ OutSP T W S H δ σ (denSs m δ) D
end
section
variable {T : Tab} {W : WX} {X : Cx} {S H : Hp} {δ : DSt} {σ : St} {En : Ends}
theorem ResS.back {S1 H1 : Hp} {δ1 : DSt} {σ1 : St} {S2 H2 : Hp} {δ2 : DSt} {σ2 : St} {v : V} {r : R} (s : Stq S H δ σ S1 H1 δ1 σ1) (h : ResS T H1 δ1 σ1 S2 H2 δ2 σ2 v r) : ResS T H δ σ S2 H2 δ2 σ2 v r := by
  cases r with
  | fz d => exact h
  | fr d =>
    obtain ⟨a, h1, h2, h3, h4⟩ := h
    refine ⟨a, h1, h2, h3, ?_⟩
    rcases h4 with h4 | h4
    · exact .inl (s.dom a h4)
    · exact (s.mov a h4).symm
theorem OutSP.back {o : OutS} {S1 H1 : Hp} {δ1 : DSt} {σ1 : St} (s : Stp S H δ σ S1 H1 δ1 σ1) (h : OutSP T W S H δ σ o En) : OutSP T W S1 H1 δ1 σ1 o En := by
  cases o with
  | nx δ' => exact fun S' H' σ' G s' => h S' H' σ' G (s.trans s')
  | rt r δ' => exact fun S' H' σ' v G s' hr => h S' H' σ' v G (s.trans s') (hr.back s.toStq)
  | bk δ' => exact fun S' H' σ' G s' => h S' H' σ' G (s.trans s')
  | ct δ' => exact fun S' H' σ' G s' => h S' H' σ' G (s.trans s')
  | ex x δ' => exact fun cls d S' H' σ' G s' e => h cls d S' H' σ' G (s.trans s') e
  | bad => exact h
/-- an expression, then what is done with it -/
theorem OutSP.exp {α : Type} {o : Out α} {f : α → DSt → OutS} (h : OutSP T W S H δ σ (o.s f) En) : OutP T W σ S H δ o fun a δ1 S1 H1 => OutSP T W S H δ σ (f a δ1) En := by
  cases o with
  | ok a δ' => exact fun S' H' G s => h
  | ex x δ' => exact fun cls d S' H' G s e => h cls d S' H' σ G s e
  | bad => exact h
theorem OutSP.exp' {α : Type} {o : Out α} {f : α → DSt → OutS} (h : OutSP T W S H δ σ (o.s f) En) : OutP T W σ S H δ o fun a δ1 S1 H1 => OutSP T W S1 H1 δ1 σ (f a δ1) En :=
  h.exp.mono fun _ _ _ _ _ s h => h.back s
theorem OutSP.seq {o : OutS} {f : DSt → OutS} (h : OutSP T W S H δ σ (match o with | .nx δ => f δ | o => o) En) : OutSP T W S H δ σ o { En with nx := fun σ' H' => ∃ S' δ', Good T S' H' δ' σ' ∧ OutSP T W S' H' δ' σ' (f δ') En } := by
  cases o with
  | nx δ' => exact fun S' H' σ' G s => ⟨S', δ', G, OutSP.back s (show OutSP T W S H δ σ (f δ') En from h)⟩
  | rt r δ' => exact h
  | bk δ' => exact h
  | ct δ' => exact h
  | ex x δ' => exact h
  | bad => exact h
theorem sSs_nil : PSs X [] (rdSs T W .nil) := PSs.mono pss_nil fun D σ H ⟨S, δ, G, h⟩ => by
  simp only [denSs] at h
  exact h S H σ G (.refl ..)
theorem sSs_cons {st : Stmt} {rest : List Stmt} {m : St1} {ms : Sts} (h1 : PS X st (rdS T W m)) (h2 : PSs X rest (rdSs T W ms)) : PSs X (st :: rest) (rdSs T W (.cons m ms)) :=
  PSs.mono (pss_cons h1 h2) fun D σ H ⟨S, δ, G, h⟩ => ⟨S, δ, G, by
    simp only [denSs] at h
    exact OutSP.seq h⟩

/-! ### small statements -/
theorem sS_pass {pos : Pos} : PS X (.Pass pos) (rdS T W .pass) := PS.mono ps_pass fun D σ H ⟨S, δ, G, h⟩ => by
  simp only [denS] at h
  exact h S H σ G (.refl ..)
theorem sS_brk {pos : Pos} : PS X (.Break pos) (rdS T W .brk) := PS.mono ps_break fun D σ H ⟨S, δ, G, h⟩ => by
  simp only [denS] at h
  exact h S H σ G (.refl ..)
theorem sS_cont {pos : Pos} : PS X (.Continue pos) (rdS T W .cont) := PS.mono ps_continue fun D σ H ⟨S, δ, G, h⟩ => by
  simp only [denS] at h
  exact h S H σ G (.refl ..)
theorem sS_retn {pos : Pos} : PS X (.Return none pos) (rdS T W .retn) := PS.mono ps_retN fun D σ H ⟨S, δ, G, h⟩ => by
  simp only [denS] at h
  exact h S H σ .non G (.refl ..) .non
theorem sS_ret {e : Expr} {m : E} {pos : Pos} (he : PE X e (rdE T W m)) : PS X (.Return (some e) pos) (rdS T W (.ret m)) := PS.mono (ps_ret he) fun D σ H ⟨S, δ, G, h⟩ => ⟨S, δ, G, by
  simp only [denS] at h
  exact h.exp.mono fun r δ1 S1 H1 G1 s1 h1 v hr => h1 S1 H1 σ v G1 s1 (by
    cases r with
    | fz d => exact hr
    | fr d => exact hr)⟩
theorem sS_expr {e : Expr} {m : E} {pos : Pos} (he : PE X e (rdE T W m)) (hs : swapsWith e none pos.line X.env = pure false) : PS X (.Expr e pos) (rdS T W (.expr m)) := PS.mono (ps_expr he hs) fun D σ H ⟨S, δ, G, h⟩ => ⟨S, δ, G, by
  simp only [denS] at h
  exact h.exp.mono fun r δ1 S1 H1 G1 s1 h1 v hr => h1 S1 H1 σ G1 s1⟩
/-- a slot given anew -/
theorem set_ok {i : Nat} {r : R} {v : V} {S1 H1 : Hp} {δ1 : DSt} (G : Good T S1 H1 δ1 σ) (s : Stp S H δ σ S1 H1 δ1 σ) (hr : ResOk T H δ S1 H1 δ1 σ v r)
    (h : OutSP T W S H δ σ (setS i r δ1) En) : En.nx (σ.set i (some v)) H1 := by
  cases r with
  | fz d => exact h S1 H1 _ (G.setFz hr) s.setFz
  | fr d =>
    obtain ⟨a, rfl, o, n, w⟩ := hr
    have n' : ¬ Owned (δ1.set i none) σ a := fun ⟨j, m, d, e1, e2, e3⟩ => n (by
      by_cases hj : i = j
      · subst hj
        by_cases hl : i < δ1.length
        · rw [List.getElem?_set_self hl] at e1; cases e1
        · rw [List.getElem?_eq_none_iff.mpr (by simpa using Nat.le_of_not_lt hl)] at e1; cases e1
      · rw [List.getElem?_set_ne hj] at e1
        exact ⟨j, m, d, e1, e2, e3⟩)
    exact h S1 H1 _ (G.setOw o n' (by decide)) (s.setOw w)
theorem sS_set {i : Nat} {x : Str} {e : Expr} {m : E} {pos pos' : Pos} (hN : X.N.Nodup) (hi : X.N[i]? = some x) (hx : Loc X.env.scope x) (he : PE X e (rdE T W m)) (hs : swapsWith e (some (.Name x pos')) pos.line X.env = pure false)
    (hf : X.fn x = true ∨ X.env.scope.names.lookup x = some .local) : PS X (.Assign [.Name x pos'] e pos) (rdS T W (.set i m)) := PS.mono (ps_set hN hi hx he hs hf) fun D σ H ⟨S, δ, G, h⟩ => ⟨S, δ, G, by
  simp only [denS] at h
  exact h.exp.mono fun r δ1 S1 H1 G1 s1 h1 v hr => set_ok G1 s1 hr h1⟩
theorem sS_ife {c : Expr} {a b : List Stmt} {mc : E} {ma mb : Sts} {pos : Pos} (hc : PT X c (rdT T W mc)) (ha : PSs X a (rdSs T W ma)) (hb : PSs X b (rdSs T W mb)) : PS X (.If c a b pos) (rdS T W (.ife mc ma mb)) :=
  PS.mono (ps_if hc ha hb) fun D σ H ⟨S, δ, G, h⟩ => ⟨S, δ, G, by
    simp only [denS] at h
    refine h.exp'.mono fun k δ1 S1 H1 G1 s1 h1 => ?_
    cases k with
    | true => exact ⟨S1, δ1, G1, h1⟩
    | false => exact ⟨S1, δ1, G1, h1⟩⟩
theorem sS_retv {i : Nat} {x : Str} {np pos : Pos} (hN : X.N[i]? = some x) (hv : Vis X.env.scope x) (hd : (x == ("__debug__" : Str)) = false) (hcd : (x == ("__classdict__" : Str)) = false) : PS X (.Return (some (.Name x np)) pos) (rdS T W (.retv i)) := by
  refine PS.mono (ps_ret (pe_var hN hv hd hcd)) fun D σ H ⟨S, δ, G, h⟩ => ?_
  cases q : slotD δ i with
  | none => simp only [denS, q] at h; exact h.elim
  | some p =>
    obtain ⟨m, d⟩ := p
    cases m with
    | fz =>
      simp only [denS, q] at h
      obtain ⟨v, e1, e2, _⟩ := G.slot i _ d (slotD_get q)
      exact ⟨v, e1, h S H σ v G (.refl ..) (e2 rfl)⟩
    | ow =>
      simp only [denS, q] at h
      obtain ⟨v, e1, _, e3⟩ := G.slot i _ d (slotD_get q)
      obtain ⟨a, rfl, o⟩ := e3 (by decide)
      refine ⟨_, e1, h S H σ _ (G.forget i) ?_ ⟨a, rfl, o, owned_forget G (slotD_get q) (by decide) e1, .inr ⟨i, d, slotD_get q, e1⟩⟩⟩
      refine ⟨⟨.refl S, fun _ _ e _ _ => e, fun _ _ e => .inl e, fun b h => .inl (mutA_forget h), fun b ⟨j, d', e, r⟩ => .inl ?_, fun _ e => e⟩, fun j m d' e hm => ?_⟩
      · by_cases hj : i = j
        · subst hj
          rw [List.getElem?_set_self (slotD_lt q)] at e; cases e
        · rw [List.getElem?_set_ne hj] at e
          exact ⟨j, d', e, r⟩
      · by_cases hj : i = j
        · subst hj
          rw [List.getElem?_set_self (slotD_lt q)] at e; cases e
        · rw [List.getElem?_set_ne hj] at e
          exact ⟨rfl, d', e, fun _ => rfl⟩
    | io => simp only [denS, q] at h; exact h.elim
    | lk => simp only [denS, q] at h; exact h.elim
/-- an object of ours that is a list: its new content -/
theorem put_lst {i : Nat} {m : Md} {ds ds' : List D} {vs vs' : List V} {a : Addr} (G : Good T S H δ σ) (q : slotD δ i = some (m, .lst ds)) (hm : m = .ow ∨ m = .io) (e1 : σ[i]? = some (some (.ref a))) (h1 : S a = none) (h2 : H a = some (.lst vs)) (r : RepL T S vs' ds') :
    Good T S (upd H a (.lst vs')) (δ.set i (some (m, .lst ds'))) σ ∧ Stp S H δ σ S (upd H a (.lst vs')) (δ.set i (some (m, .lst ds'))) σ :=
  mutate G q hm e1 ⟨_, h2, by simp, by simp⟩ (fun b o hb hn _ => by rw [upd_ne hn]; exact hb) (fun b hb => by
    by_cases hba : b = a
    · subst hba; rw [upd_same] at hb; cases hb
    · rw [upd_ne hba] at hb; exact hb) (.lst h1 upd_same r) (fun b o hb => by
    rw [upd_ne (fun z => by rw [z, h1] at hb; cases hb)]
    exact G.sub _ _ hb)
theorem own_lst {i : Nat} {m : Md} {ds : List D} (G : Good T S H δ σ) (q : slotD δ i = some (m, .lst ds)) : ∃ a vs, σ[i]? = some (some (.ref a)) ∧ H a = some (.lst vs) ∧ RepL T S vs ds ∧ (m ≠ .fz → S a = none) := by
  obtain ⟨v, e1, e2, e3⟩ := G.slot i m _ (slotD_get q)
  by_cases hm : m = .fz
  · cases e2 hm with
    | lst h1 h2 => exact ⟨_, _, e1, G.sub _ _ h1, h2, fun z => absurd hm z⟩
  · obtain ⟨a, rfl, o⟩ := e3 hm
    cases o with
    | lst h1 h2 h3 => exact ⟨a, _, e1, h2, h3, fun _ => h1⟩
theorem sS_app {i : Nat} {x : Str} {e : Expr} {m : E} {np apos cpos pos : Pos} (hN : X.N[i]? = some x) (hv : Vis X.env.scope x) (hd : (x == ("__debug__" : Str)) = false) (hcd : (x == ("__classdict__" : Str)) = false)
    (he : PE X e (rdE T W m)) (hst : notStar e = true) (hline : (apos.endLine == cpos.line) = true) : PS X (.Expr (.Call (.Attribute (.Name x np) "append" apos) [e] [] cpos) pos) (rdS T W (.app i m)) := by
  refine PS.mono (ps_expr (pe_bm PySem.F.plainAttrs_list PySem.F.slot_list_append PySem.F.type_list_append mt_append (pe_var hN hv hd hcd) (pa_cons he pa_nil (star1 hst)) rfl (by rw [star1 hst]; rfl) hline (star1 hst) rfl) rfl) fun D σ H ⟨S, δ, G, h⟩ => ?_
  cases q : slotD δ i with
  | none => simp only [denS, q] at h; exact h.elim
  | some p =>
    obtain ⟨m0, d0⟩ := p
    cases d0 <;> first | (simp only [denS, q] at h; exact h.elim) | skip
    rename_i ds0
    simp only [denS, q] at h
    obtain ⟨a, vs0, e1, h2, _, _⟩ := own_lst G q
    refine ⟨_, e1, .inl ⟨rfl, _, SqL.of h2⟩, S, δ, G, ?_⟩
    refine h.exp.mono fun r δ1 S1 H1 G1 s1 h1 v hr => ?_
    obtain ⟨y, S2, e2, G2, s2, ay, k⟩ := frz_ok G1 s1 hr h1.exp
    cases y with
    | pk j => exact k.elim
    | val d =>
      cases q1 : slotD δ1 i with
      | none => simp only [q1] at k; exact k.elim
      | some p1 =>
        obtain ⟨m1, d1⟩ := p1
        cases d1 <;> first | (simp only [q1] at k; exact k.elim) | skip
        rename_i ds
        simp only [q1] at k
        split at k
        · rename_i hc
          obtain ⟨a1, vs, f1, f2, f3, f4⟩ := own_lst G2 q1
          rw [e1] at f1
          cases f1
          have hS : S2 a = none := f4 (by rcases hc.1 with z | z <;> (rw [z]; decide))
          obtain ⟨G3, s3⟩ := put_lst G2 q1 hc.1 e1 hS f2 (f3.append (.cons ay .nil))
          exact ⟨a, vs, v, rfl, rfl, f2, by rw [f3.length]; exact sizeL_lt hc.2, k S2 _ σ G3 (s2.trans s3)⟩
        · exact k.elim
end
end Z

set_option Elab.async false
set_option linter.all false
set_option maxHeartbeats 1000000
/-! ZLoop: what is walked; for, while, comprehensions. -/
namespace Z
open PySem L2

/-- what an iterator gives in every later state -/
structure WalkD (T : Tab) (S1 H1 : Hp) (δ1 : DSt) (σ1 : St) (ds : List D) (J : It) : Prop where
  go : ∀ S H δ σ (i : Nat), Good T S H δ σ → Stq S1 H1 δ1 σ1 S H δ σ → i < ds.length → J.go i H
  stop : ∀ S H δ σ, Good T S H δ σ → Stq S1 H1 δ1 σ1 S H δ σ → J.stop ds.length H
  yld : ∀ S H δ σ (i : Nat) x H', Good T S H δ σ → Stq S1 H1 δ1 σ1 S H δ σ → i < ds.length → J.yld i H x H' → ∃ S' d, Grow S H S' H' ∧ ds[i]? = some d ∧ Rep T S' x d

section
variable {T : Tab} {W : WX} {X : Cx} {S H : Hp} {δ : DSt} {σ : St} {ds : List D} {a : Addr} {vs : List V}
theorem walkD_lst (h : H a = some (.lst vs)) (r : RepL T S vs ds) (n : ¬ MutA δ σ a) : WalkD T S H δ σ ds (Itl T.K a) := by
  have later : ∀ {S' H' : Hp} {δ' : DSt} {σ' : St}, Stq S H δ σ S' H' δ' σ' → H' a = some (.lst vs) := fun s => s.keep a _ h n (by simp)
  refine ⟨fun S' H' δ' σ' i G s hi => ?_, fun S' H' δ' σ' G s => ⟨vs, SqL.of (later s), by rw [r.length]; exact Nat.le_refl _⟩, fun S' H' δ' σ' i x H2 G s hi y => ?_⟩
  · have hi' : i < vs.length := by rw [r.length]; exact hi
    exact ⟨vs, vs[i], SqL.of (later s), by simp [hi']⟩
  · obtain ⟨rfl, y⟩ := y
    obtain ⟨d, e1, e2⟩ := r.getV (y vs (SqL.of (later s)))
    exact ⟨S', d, .refl G.sub, e1, e2.sub s.ext⟩
theorem walkD_tup (h : SqT T.K S a vs) (r : RepL T S vs ds) : WalkD T S H δ σ ds (Itt T.K a) := by
  refine ⟨fun S' H' δ' σ' i G s hi => ?_, fun S' H' δ' σ' G s => ⟨vs, sqT_sub G.sub (sqT_sub s.ext h), by rw [r.length]; exact Nat.le_refl _⟩, fun S' H' δ' σ' i x H2 G s hi y => ?_⟩
  · have hi' : i < vs.length := by rw [r.length]; exact hi
    exact ⟨vs, vs[i], sqT_sub G.sub (sqT_sub s.ext h), by simp [hi']⟩
  · obtain ⟨rfl, y⟩ := y
    obtain ⟨d, e1, e2⟩ := r.getV (y vs (sqT_sub G.sub (sqT_sub s.ext h)))
    exact ⟨S', d, .refl G.sub, e1, e2.sub s.ext⟩
theorem walkD_str (t : List Nat) : WalkD T S H δ σ (t.map fun c => .str [c]) (Its (sx t)) := by
  refine ⟨fun S' H' δ' σ' i G s hi => ?_, fun S' H' δ' σ' G s => ?_, fun S' H' δ' σ' i x H2 G s hi y => ?_⟩
  · show i < (sx t).cps.size
    simpa [sx] using hi
  · show (sx t).cps.size ≤ _
    simp [sx]
  · obtain ⟨rfl, c, e, rfl⟩ := y
    refine ⟨S', .str [c], .refl G.sub, ?_, .str [c]⟩
    have e' : t[i]? = some c := by simpa [sx] using e
    rw [List.getElem?_map, e']
    rfl
theorem walkD_rng (lo : Int) (n : Nat) : WalkD T S H δ σ (intsD lo n) (Itr lo n) := by
  have hl : (intsD lo n).length = n := by simp [intsD]
  refine ⟨fun S' H' δ' σ' i G s hi => ?_, fun S' H' δ' σ' G s => ?_, fun S' H' δ' σ' i x H2 G s hi y => ?_⟩
  · show i < n
    rw [← hl]; exact hi
  · show n ≤ _
    rw [hl]; exact Nat.le_refl _
  · obtain ⟨rfl, rfl⟩ := y
    rw [hl] at hi
    refine ⟨S', .int (lo + i), .refl G.sub, ?_, .int _⟩
    simp [intsD, List.getElem?_map, List.getElem?_range hi]

/-! ### sources -/
def rdSrc (T : Tab) (W : WX) (m : Src) : TI := fun σ H R => ∃ S δ, Good T S H δ σ ∧ OutP T W σ S H δ (denSrc m δ) fun p δ1 S1 H1 => ∀ J, WalkD T S1 H1 (lockD δ1 p.2) σ p.1 J → R J H1
theorem PI.mono {tg iter : Expr} {t u : TI} (h : PI X tg iter t) (m : ∀ σ H R, u σ H R → t σ H R) : PI X tg iter u := ⟨fun pins s σ H R I q => h.run pins s σ H R I (m σ H R q)⟩
theorem PI.or {tg iter : Expr} {t u : TI} (h : PI X tg iter t) (k : PI X tg iter u) : PI X tg iter fun σ H R => t σ H R ∨ u σ H R := ⟨fun pins s σ H R I q => q.elim (h.run pins s σ H R I) (k.run pins s σ H R I)⟩
theorem mutA_lock {i : Nat} {m : Md} {d : D} {b : Addr} (q : slotD δ i = some (m, d)) (h : MutA (δ.set i (some (.lk, d))) σ b) : MutA δ σ b ∧ ∀ c, σ[i]? = some (some (.ref c)) → OwnAt δ σ i c → (∀ j k a, OwnAt δ σ j a → OwnAt δ σ k a → j = k) → b ≠ c := by
  obtain ⟨j, m', d', e, hm, r⟩ := h
  have hj : i ≠ j := fun z => by
    subst z
    rw [List.getElem?_set_self (slotD_lt q)] at e
    cases e
    rcases hm with z | z <;> cases z
  rw [List.getElem?_set_ne hj] at e
  refine ⟨⟨j, m', d', e, hm, r⟩, fun c hc ho inj z => ?_⟩
  subst z
  exact hj (inj i j b ho ⟨m', d', e, by rcases hm with rfl | rfl <;> decide, r⟩)
/-- a list that stands in an argument is walked -/
theorem walk_ar {x : AR} {v : V} (G : Good T S H δ σ) (av : ArOk T S σ v x) (e : res δ x = some (.lst ds)) : ∃ a vs, v = .ref a ∧ H a = some (.lst vs) ∧ WalkD T S H (lockD δ (lockI δ x)) σ ds (Itl T.K a) := by
  have fz : ∀ {a : Addr} {vs : List V}, S a = some (.lst vs) → RepL T S vs ds → WalkD T S H δ σ ds (Itl T.K a) := fun {a vs} h1 h2 => walkD_lst (G.sub _ _ h1) h2 fun m => by
    obtain ⟨d, o⟩ := G.owned m.owned
    rw [o.there.1] at h1
    cases h1
  cases x with
  | val d =>
    cases e
    cases av with
    | lst h1 h2 => exact ⟨_, _, rfl, G.sub _ _ h1, fz h1 h2⟩
  | pk i =>
    have e : (slotD δ i).map (·.2) = some (.lst ds) := e
    cases q : slotD δ i with
    | none => rw [q] at e; cases e
    | some p =>
      obtain ⟨m, d⟩ := p
      rw [q] at e
      cases e
      have av : σ[i]? = some (some v) := av
      obtain ⟨v', e1, e2, e3⟩ := G.slot i m _ (slotD_get q)
      rw [av] at e1
      cases e1
      by_cases hm : m = .fz
      · subst hm
        cases e2 rfl with
        | lst h1 h2 =>
          refine ⟨_, _, rfl, G.sub _ _ h1, ?_⟩
          have : lockI δ (.pk i) = none := by simp only [lockI, q]
          rw [this]
          exact fz h1 h2
      · obtain ⟨a, rfl, o⟩ := e3 hm
        cases o with
        | @lst vs _ h1 h2 h3 =>
          refine ⟨a, vs, rfl, h2, ?_⟩
          have hl : lockI δ (.pk i) = some i := by
            cases m <;> first | exact absurd rfl hm | simp only [lockI, q]
          have hd : lockD δ (some i) = δ.set i (some (.lk, .lst ds)) := by
            cases m <;> first | exact absurd rfl hm | simp only [lockD, q]
          rw [hl, hd]
          refine walkD_lst h2 h3 fun mu => ?_
          exact (mutA_lock q mu).2 a av ⟨m, _, slotD_get q, hm, av⟩ G.inj rfl
theorem sI_seq {tg e : Expr} {m : E} (hK : X.K = T.K) (he : PE X e (rdA T W m)) : PI X tg e (rdSrc T W (.seq m)) := by
  refine PI.mono (PI.or (pi_list he) (PI.or (pi_tup he) (pi_str he))) fun σ H R ⟨S, δ, G, h⟩ => ?_
  simp only [denSrc] at h
  cases q : rd m (den m δ) δ with
  | bad => rw [q] at h; exact h.elim
  | ex x δ1 =>
    rw [q] at h
    exact .inl ⟨S, δ, G, by rw [q]; exact h⟩
  | ok x δ1 =>
    rw [q] at h
    have h : OutP T W σ S H δ (match (res δ1 x).bind seqD with | some ds => .ok (ds, lockI δ1 x) δ1 | none => .bad) _ := h
    cases q1 : res δ1 x with
    | none => rw [q1] at h; exact h.elim
    | some d =>
      rw [q1] at h
      cases d <;> first | exact h.elim | skip
      · rename_i t
        refine .inr (.inr ⟨S, δ, G, ?_⟩)
        rw [q]
        intro S1 H1 G1 s1 v av
        refine ⟨_, (av.rd G1 q1).str, h S1 H1 G1 s1 _ (walkD_str t)⟩
      · rename_i ds
        refine .inr (.inl ⟨S, δ, G, ?_⟩)
        rw [q]
        intro S1 H1 G1 s1 v av
        obtain ⟨a, vs, rfl, h1, h2⟩ := (av.rd G1 q1).tup
        rw [hK]
        exact ⟨a, rfl, ⟨vs, sqT_sub G1.sub h1⟩, h S1 H1 G1 s1 _ (walkD_tup h1 h2)⟩
      · rename_i ds
        refine .inl ⟨S, δ, G, ?_⟩
        rw [q]
        intro S1 H1 G1 s1 v av
        obtain ⟨a, vs, rfl, h1, h2⟩ := walk_ar G1 av q1
        rw [hK]
        exact ⟨a, rfl, ⟨vs, SqL.of h1⟩, h S1 H1 G1 s1 _ h2⟩
theorem range62_ok {j : Int} (h : range62 j = true) : -(2 ^ 62) ≤ j ∧ j < 2 ^ 62 := by
  simp only [range62, Bool.and_eq_true, decide_eq_true_eq] at h
  have e : (2 : Int) ^ 62 = 4611686018427387904 := by decide
  omega
theorem sI_rng1 {tg a : Expr} {m : E} {p pos : Pos} (hg : Gl X "range") (hm : X.mg "range" = none) (ha : PE X a (rdE T W m)) (hs : notStar a = true) : PI X tg (.Call (.Name "range" p) [a] [] pos) (rdSrc T W (.rng1 m)) := by
  refine PI.mono (pi_range1 hg hm (pa_cons ha pa_nil (star1 hs)) (star1 hs)) fun σ H R ⟨S, δ, G, h⟩ => ⟨S, δ, G, ?_⟩
  simp only [denSrc] at h
  refine h.bindS.mono fun r δ1 S1 H1 G1 s1 h1 v hr => ?_
  cases r with
  | fr d => exact h1.elim
  | fz d =>
    cases d <;> first | exact h1.elim | skip
    rename_i j
    cases hr
    have h1 : OutP T W σ S H δ (if range62 j then .ok (intsD 0 j.toNat, none) δ1 else .bad) _ := h1
    split at h1
    · rename_i hz
      obtain ⟨b1, b2⟩ := range62_ok hz
      exact ⟨j, rfl, b1, b2, h1 S1 H1 G1 s1 _ (walkD_rng 0 _)⟩
    · exact h1.elim
theorem sI_rng2 {tg a b : Expr} {m m2 : E} {p pos : Pos} (hg : Gl X "range") (hm : X.mg "range" = none) (ha : PE X a (rdE T W m)) (hb : PE X b (rdE T W m2)) (hs : notStar a = true) (hs2 : notStar b = true) : PI X tg (.Call (.Name "range" p) [a, b] [] pos) (rdSrc T W (.rng2 m m2)) := by
  refine PI.mono (pi_range2 hg hm (pa_cons ha (pa_cons hb pa_nil (star1 hs2)) (star1 hs)) (by rw [star1 hs, star1 hs2]; rfl) (star1 hs2)) fun σ H R ⟨S, δ, G, h⟩ => ⟨S, δ, G, ?_⟩
  simp only [denSrc] at h
  refine h.bind.mono fun r δ1 S1 H1 G1 s1 h1 v hr => ⟨S1, δ1, G1, ?_⟩
  refine h1.bindS.mono fun r2 δ2 S2 H2 G2 s2 h2 w hw => ?_
  cases r with
  | fr d => exact h2.elim
  | fz d =>
    cases d <;> first | exact h2.elim | skip
    cases r2 with
    | fr d => exact h2.elim
    | fz d =>
      cases d <;> first | exact h2.elim | skip
      rename_i i j
      cases hr
      cases hw
      have h2 : OutP T W σ S1 H1 δ1 (if range62 i && range62 j then .ok (intsD i (j - i).toNat, none) δ2 else .bad) _ := h2
      split at h2
      · rename_i hz
        rw [Bool.and_eq_true] at hz
        obtain ⟨b1, b2⟩ := range62_ok hz.1
        obtain ⟨b3, b4⟩ := range62_ok hz.2
        exact ⟨i, j, rfl, ⟨b1, b2, b3, b4⟩, h2 S2 H2 G2 s2 _ (walkD_rng i _)⟩
      · exact h2.elim

/-! ### targets -/
/-- slots outside tg are as they were -/
def Agree (tg : List Nat) (σ σ' : St) : Prop := σ'.length = σ.length ∧ ∀ j, j ∉ tg → σ'[j]? = σ[j]?
theorem wipe_get (σ : St) : ∀ (tg : List Nat) (j : Nat), (wipe σ tg)[j]? = if j ∈ tg ∧ j < σ.length then some none else σ[j]?
  | [], j => by simp [wipe]
  | i :: tg, j => by
    unfold wipe
    by_cases hj : i = j
    · subst hj
      by_cases hl : i < σ.length
      · rw [List.getElem?_set_self (by rw [wipe_length]; exact hl), if_pos ⟨List.mem_cons_self, hl⟩]
      · rw [List.getElem?_eq_none_iff.mpr (by rw [List.length_set, wipe_length]; omega), if_neg (fun z => hl z.2), List.getElem?_eq_none_iff.mpr (by omega)]
    · rw [List.getElem?_set_ne hj, wipe_get σ tg j]
      have : j ∈ i :: tg ↔ j ∈ tg := by
        rw [List.mem_cons]
        exact ⟨fun z => z.elim (fun w => absurd w.symm hj) id, .inr⟩
      simp only [this]
theorem Agree.wipe {tg : List Nat} {σ σ' : St} (h : Agree tg σ σ') : wipe σ' tg = wipe σ tg := by
  apply List.ext_getElem?
  intro j
  rw [wipe_get, wipe_get, h.1]
  by_cases hj : j ∈ tg ∧ j < σ.length
  · rw [if_pos hj, if_pos hj]
  · rw [if_neg hj, if_neg hj]
    by_cases hm : j ∈ tg
    · have : ¬ j < σ.length := fun z => hj ⟨hm, z⟩
      rw [List.getElem?_eq_none_iff.mpr (by rw [h.1]; omega), List.getElem?_eq_none_iff.mpr (by omega)]
    · exact h.2 j hm
/-- a target that follows bindT -/
def TgOk (T : Tab) (tg : List Nat) (g : TG) : Prop := ∀ (S H : Hp) (δ : DSt) (σ : St) (x : D) (v : V) (δ' : DSt) (Q : St → Hp → Prop), Good T S H δ σ → Rep T S v x → bindT tg x δ = some δ' →
  (∀ σ', Good T S H δ' σ' → Stp S H δ σ S H δ' σ' → Agree tg σ σ' → Q σ' H) → g v σ H Q
theorem tg_name (i : Nat) : TgOk T [i] (gName i) := fun S H δ σ x v δ' Q G r e k => by
  simp only [bindT] at e
  cases e
  refine k _ (G.setFz r) ((Stp.refl S H δ σ).setFz) ⟨by simp, fun j hj => ?_⟩
  rw [List.getElem?_set_ne (fun z => hj (by rw [z]; exact List.mem_singleton.mpr rfl))]
def gNames : List Nat → TGs
  | [] => gNil
  | i :: is => gCons (gName i) (gNames is)
theorem tg_names : ∀ (is : List Nat) (ds : List D) (S H : Hp) (δ : DSt) (σ : St) (vs : List V) (Q : St → Hp → Prop), Good T S H δ σ → RepL T S vs ds → ds.length = is.length →
    (∀ σ', Good T S H ((is.zip ds).foldl (fun δ p => δ.set p.1 (some (.fz, p.2))) δ) σ' → Stp S H δ σ S H ((is.zip ds).foldl (fun δ p => δ.set p.1 (some (.fz, p.2))) δ) σ' → Agree is σ σ' → Q σ' H) → gNames is vs σ H Q
  | [], [], S, H, δ, σ, vs, Q, G, r, _, k => by
    cases r
    exact ⟨rfl, k σ G (.refl ..) ⟨rfl, fun _ _ => rfl⟩⟩
  | [], _ :: _, _, _, _, _, _, _, _, _, e, _ => by simp at e
  | _ :: _, [], _, _, _, _, _, _, _, _, e, _ => by simp at e
  | i :: is, d :: ds, S, H, δ, σ, vs, Q, G, r, e, k => by
    cases r with
    | cons a r =>
      refine ⟨_, _, rfl, ?_⟩
      refine tg_names is ds S H _ _ _ Q (G.setFz a) r (by simpa using e) fun σ' G' s' ag => k σ' G' (((Stp.refl S H δ σ).setFz).trans s') ⟨by rw [ag.1]; simp, fun j hj => ?_⟩
      rw [List.mem_cons, not_or] at hj
      rw [ag.2 j hj.2, List.getElem?_set_ne (fun z => hj.1 z.symm)]
theorem tg_tup (is : List Nat) (hl : is.length ≠ 1) : TgOk T is (gTup T.K is.length (gNames is)) := fun S H δ σ x v δ' Q G r e0 k => by
  have e : bindM is x δ = some δ' := by
    match is, hl, e0 with
    | [], _, e => exact e
    | _ :: _ :: _, _, e => exact e
  clear e0
  cases x <;> first | cases e | skip
  rename_i ds
  simp only [bindM] at e
  split at e
  · cases e
    rename_i hz
    cases r with
    | tup h1 h2 => exact ⟨_, _, rfl, sqT_sub G.sub h1, h2.length.trans hz, tg_names is ds S H δ σ _ Q G h2 hz k⟩
  · cases e
theorem pgs_names {es : List Expr} {is : List Nat} (hN : X.N.Nodup) (h : Paired (fun (e : Expr) (i : Nat) => ∃ x p, e = .Name x p ∧ X.N[i]? = some x ∧ Loc X.env.scope x ∧ (X.fn x = true ∨ X.env.scope.names.lookup x = some .local)) es is) : PGs X es (gNames is) := by
  induction h with
  | nil => exact pgs_nil
  | cons a _ ih =>
    obtain ⟨x, p, rfl, h1, h2, h3⟩ := a
    exact pgs_cons (pg_name hN h1 h2 h3) ih

/-! ### a list of ours that is walked -/
theorem lockD_len (l : Option Nat) : (lockD δ l).length = δ.length := by
  unfold lockD
  split
  · rfl
  · split <;> simp
theorem lock_cases (δ : DSt) (l : Option Nat) : lockD δ l = δ ∨ ∃ i m d, l = some i ∧ slotD δ i = some (m, d) ∧ m ≠ .fz ∧ lockD δ l = δ.set i (some (.lk, d)) := by
  cases l with
  | none => exact .inl rfl
  | some i =>
    cases q : slotD δ i with
    | none => left; simp only [lockD, q]
    | some p =>
      obtain ⟨m, d⟩ := p
      by_cases hm : m = .fz
      · subst hm; left; simp only [lockD, q]
      · right
        refine ⟨i, m, d, rfl, q, hm, ?_⟩
        cases m <;> first | exact absurd rfl hm | simp only [lockD, q]
/-- the state while it is walked -/
theorem Good.lock (G : Good T S H δ σ) (l : Option Nat) : Good T S H (lockD δ l) σ ∧ Stq S H δ σ S H (lockD δ l) σ := by
  rcases lock_cases δ l with e | ⟨i, m, d, rfl, q, hm, e⟩
  · rw [e]; exact ⟨G, (Stp.refl ..).toStq⟩
  · rw [e]
    obtain ⟨v, e1, _, e3⟩ := G.slot i m d (slotD_get q)
    obtain ⟨a, rfl, o⟩ := e3 hm
    have G2 := G.setOw (i := i) (m := .lk) o (owned_forget G (slotD_get q) hm e1) (by decide)
    rw [set_same e1] at G2
    refine ⟨G2, ⟨.refl S, fun _ _ e _ _ => e, fun _ _ e => .inl e, fun b h => .inl (mutA_lock q h).1, fun b ⟨j, d', e, r⟩ => .inl ?_, fun _ e => e⟩⟩
    by_cases hj : i = j
    · subst hj
      rw [List.getElem?_set_self (slotD_lt q)] at e
      cases e
    · rw [List.getElem?_set_ne hj] at e
      exact ⟨j, d', e, r⟩
/-- .. and behind it -/
theorem Good.unlock {S3 H3 : Hp} {δ3 : DSt} {σ3 : St} (G : Good T S H δ σ) (l : Option Nat) (G3 : Good T S3 H3 δ3 σ3) (s : Stp S H (lockD δ l) σ S3 H3 δ3 σ3) :
    Good T S3 H3 (openD δ δ3 l) σ3 ∧ Stp S H δ σ S3 H3 (openD δ δ3 l) σ3 ∧ ∀ a, Owned (openD δ δ3 l) σ3 a → Owned δ3 σ3 a := by
  rcases lock_cases δ l with e | ⟨i, m, d, rfl, q, hm, e⟩
  · -- nothing was locked
    rw [e] at s
    have same : openD δ δ3 l = δ3 := by
      cases l with
      | none => rfl
      | some i =>
        cases q3 : slotD δ3 i with
        | none => simp only [openD, q3]
        | some p =>
          obtain ⟨m3, d3⟩ := p
          by_cases hm : m3 = .lk
          · subst hm
            obtain ⟨_, d0, f1, f2⟩ := s.kp i .lk d3 (slotD_get q3) (.inr rfl)
            cases f2 rfl
            simp only [openD, q3]
            rw [f1]
            apply List.ext_getElem?
            intro j
            by_cases hj : i = j
            · subst hj
              rw [List.getElem?_set_self (slotD_lt q3), slotD_get q3]
              rfl
            · rw [List.getElem?_set_ne hj]
          · cases m3 <;> first | exact absurd rfl hm | simp only [openD, q3]
    rw [same]
    exact ⟨G3, s, fun _ h => h⟩
  · have sq := (G.lock (some i)).2
    rw [e] at s sq
    have st : Stq S H δ σ S3 H3 δ3 σ3 := sq.trans s.toStq
    by_cases h3 : ∃ d3, slotD δ3 i = some (.lk, d3)
    · obtain ⟨d3, q3⟩ := h3
      obtain ⟨f0, d0, f1, f2⟩ := s.kp i .lk d3 (slotD_get q3) (.inr rfl)
      rw [List.getElem?_set_self (slotD_lt q)] at f1
      cases f1
      cases f2 rfl
      have ho : openD δ δ3 (some i) = δ3.set i (some (m, d)) := by
        simp only [openD, q3]
        rw [slotD_get q]
        rfl
      rw [ho]
      obtain ⟨v, e1, _, e3⟩ := G3.slot i _ _ (slotD_get q3)
      obtain ⟨a, rfl, o⟩ := e3 (by decide)
      have G4 := G3.setOw (i := i) (m := m) o (owned_forget G3 (slotD_get q3) (by decide) e1) hm
      rw [set_same e1] at G4
      have e0 : σ[i]? = some (some (.ref a)) := f0 ▸ e1
      have ow : ∀ a, Owned (δ3.set i (some (m, d))) σ3 a → Owned δ3 σ3 a := fun b ⟨j, m', d', x, y, z⟩ => by
        by_cases hj : i = j
        · subst hj
          exact ⟨i, .lk, d, slotD_get q3, by decide, z⟩
        · rw [List.getElem?_set_ne hj] at x
          exact ⟨j, m', d', x, y, z⟩
      refine ⟨G4, ⟨⟨st.ext, st.keep, st.new, fun b ⟨j, m', d', x, y, z⟩ => ?_, fun b ⟨j, d', x, z⟩ => ?_, st.dom⟩, fun j m' d' x y => ?_⟩, ow⟩
      · by_cases hj : i = j
        · subst hj
          rw [List.getElem?_set_self (slotD_lt q3)] at x
          cases x
          rw [e1] at z
          cases z
          exact .inl ⟨i, m, d, slotD_get q, y, e0⟩
        · rw [List.getElem?_set_ne hj] at x
          exact st.mu b ⟨j, m', d', x, y, z⟩
      · by_cases hj : i = j
        · subst hj
          rw [List.getElem?_set_self (slotD_lt q3)] at x
          cases x
          rw [e1] at z
          cases z
          exact .inl ⟨i, d, slotD_get q, e0⟩
        · rw [List.getElem?_set_ne hj] at x
          exact st.mov b ⟨j, d', x, z⟩
      · by_cases hj : i = j
        · subst hj
          rw [List.getElem?_set_self (slotD_lt q3)] at x
          cases x
          exact ⟨f0, d, slotD_get q, fun _ => rfl⟩
        · rw [List.getElem?_set_ne hj] at x
          have := s.kp j m' d' x y
          rwa [List.getElem?_set_ne hj] at this
    · have ho : openD δ δ3 (some i) = δ3 := by
        cases q3 : slotD δ3 i with
        | none => simp only [openD, q3]
        | some p =>
          obtain ⟨m3, d3⟩ := p
          by_cases hm3 : m3 = .lk
          · subst hm3; exact absurd ⟨_, q3⟩ h3
          · cases m3 <;> first | exact absurd rfl hm3 | simp only [openD, q3]
      rw [ho]
      refine ⟨G3, ⟨st, fun j m' d' x y => ?_⟩, fun _ h => h⟩
      obtain ⟨f0, d0, f1, f2⟩ := s.kp j m' d' x y
      by_cases hj : i = j
      · subst hj
        rw [List.getElem?_set_self (slotD_lt q)] at f1
        cases f1
        exact absurd ⟨d', slotD_of x⟩ h3
      · rw [List.getElem?_set_ne hj] at f1
        exact ⟨f0, d0, f1, f2⟩

/-! ### for -/
theorem mapS {o : OutS} {f : DSt → DSt} {En : Ends} (h : OutSP T W S H δ σ (o.map f) En) : match o with
  | .nx δ' => ∀ S' H' σ', Good T S' H' (f δ') σ' → Stp S H δ σ S' H' (f δ') σ' → En.nx σ' H'
  | .rt r δ' => ∀ S' H' σ' v, Good T S' H' (f δ') σ' → Stp S H δ σ S' H' (f δ') σ' → ResS T H δ σ S' H' (f δ') σ' v r → En.rt v H'
  | .bk δ' => ∀ S' H' σ', Good T S' H' (f δ') σ' → Stp S H δ σ S' H' (f δ') σ' → En.bk σ' H'
  | .ct δ' => ∀ S' H' σ', Good T S' H' (f δ') σ' → Stp S H δ σ S' H' (f δ') σ' → En.ct σ' H'
  | .ex x δ' => ∀ cls d S' H' σ', Good T S' H' (f δ') σ' → Stp S H δ σ S' H' (f δ') σ' → ExOk T S' cls d x → W cls d σ' H'
  | .bad => False := by
  cases o <;> exact h
theorem sS_for {tg iter : Expr} {body : List Stmt} {tgs : List Nat} {g : TG} {src : Src} {mb : Sts} {pos : Pos} (hp : PassesOwn (model X.prog X.w) X.A X.env X.xe) (hc : X.calm = true) (hi : PI X tg iter (rdSrc T W src)) (hg : PG X tg g) (hgo : TgOk T tgs g) (hb : PSs X body (rdSs T W mb))
    (hs : ∀ x, foldedSetIterable iter X.env x = pure x) : PS X (.For tg iter body [] pos) (rdS T W (.for_ tgs src mb)) := by
  refine PS.mono (ps_for hp hc hi hg hb hs) fun En σ H ⟨S, δ, G, h⟩ => ⟨S, δ, G, ?_⟩
  simp only [denS] at h
  refine h.exp.mono fun p δ1 S1 H1 G1 s1 h1 J wk => ?_
  obtain ⟨ds, l⟩ := p
  obtain ⟨GL, sL⟩ := G1.lock l
  -- the state at a turn, and what is left
  refine ⟨fun i m σ' H' => m = ds.length - i ∧ i ≤ ds.length ∧ ∃ S' δ', Good T S' H' δ' σ' ∧ Stp S1 H1 (lockD δ1 l) σ S' H' δ' σ' ∧ OutSP T W S H δ σ ((forL tgs (fun δ => denSs mb δ) (ds.drop i) δ').map fun δ2 => openD δ1 δ2 l) En,
    ⟨ds.length, by simp, Nat.zero_le _, S1, lockD δ1 l, GL, .refl .., h1⟩, ?_⟩
  rintro i m σ' H' ⟨rfl, hi', S', δ', G', s', h'⟩
  by_cases hlt : i < ds.length
  · refine .inr ⟨wk.go S' H' δ' σ' i G' s'.toStq hlt, fun σ2 H2 => ∃ S2 δ2, Good T S2 H2 δ2 σ2 ∧ Stp S1 H1 (lockD δ1 l) σ S2 H2 δ2 σ2 ∧ OutSP T W S H δ σ ((forL tgs (fun δ => denSs mb δ) (ds.drop (i + 1)) δ2).map fun δ2 => openD δ1 δ2 l) En,
      fun σ2 H2 ⟨S2, δ2, a, b, c⟩ => ⟨ds.length - (i + 1), by omega, rfl, hlt, S2, δ2, a, b, c⟩, fun x H2 y => ?_⟩
    obtain ⟨S2, d, gr, e1, r⟩ := wk.yld S' H' δ' σ' i x H2 G' s'.toStq hlt y
    have G2 := G'.grow gr
    have s2 := s'.trans (gr.stp δ' σ')
    have ed : ds.drop i = d :: ds.drop (i + 1) := by
      rw [List.drop_eq_getElem_cons hlt]
      rw [List.getElem?_eq_getElem hlt] at e1
      cases e1
      rfl
    rw [ed] at h'
    simp only [forL] at h'
    cases qb : bindT tgs d δ' with
    | none => rw [qb] at h'; exact h'.elim
    | some δb =>
      rw [qb] at h'
      refine hgo S2 H2 δ' σ' d x δb _ G2 r qb fun σb Gb sb _ => ⟨S2, δb, Gb, ?_⟩
      have s3 := s2.trans sb
      simp only [] at h'
      -- behind the body
      have fin : ∀ {S3 H3 : Hp} {δ3 : DSt} {σ3 : St}, Good T S3 H3 δ3 σ3 → Stp S2 H2 δb σb S3 H3 δ3 σ3 → Good T S3 H3 (openD δ1 δ3 l) σ3 ∧ Stp S H δ σ S3 H3 (openD δ1 δ3 l) σ3 ∧ ∀ a, Owned (openD δ1 δ3 l) σ3 a → Owned δ3 σ3 a := fun {S3 H3 δ3 σ3} G3 s4 => by
        obtain ⟨a, b, c⟩ := G1.unlock l G3 (s3.trans s4)
        exact ⟨a, s1.trans b, c⟩
      cases qo : denSs mb δb with
      | nx δc =>
        rw [qo] at h'
        exact fun S3 H3 σ3 G3 s4 => ⟨S3, δc, G3, s3.trans s4, h'⟩
      | ct δc =>
        rw [qo] at h'
        exact fun S3 H3 σ3 G3 s4 => ⟨S3, δc, G3, s3.trans s4, h'⟩
      | bk δc =>
        rw [qo] at h'
        exact fun S3 H3 σ3 G3 s4 => let ⟨a, b, _⟩ := fin G3 s4; (mapS (o := .nx δc) h') S3 H3 σ3 a b
      | rt r δc =>
        rw [qo] at h'
        refine fun S3 H3 σ3 v G3 s4 hr => ?_
        obtain ⟨a, b, c⟩ := fin G3 s4
        refine (mapS (o := .rt r δc) h') S3 H3 σ3 v a b ?_
        have sq : Stq S H δ σ S2 H2 δb σb := (s1.toStq.trans sL).trans s3.toStq
        have hr' := hr.back sq
        cases r with
        | fz d => exact hr'
        | fr d =>
          obtain ⟨a', x1, x2, x3, x4⟩ := hr'
          exact ⟨a', x1, x2, fun z => x3 (c a' z), x4⟩
      | ex x δc =>
        rw [qo] at h'
        refine fun cls d S3 H3 σ3 G3 s4 he => ?_
        obtain ⟨a, b, _⟩ := fin G3 s4
        exact (mapS (o := .ex x δc) h') cls d S3 H3 σ3 a b he
      | bad => rw [qo] at h'; exact h'.elim
  · have e : i = ds.length := by omega
    subst e
    rw [List.drop_length] at h'
    simp only [forL] at h'
    obtain ⟨a, b, _⟩ := G1.unlock l G' s'
    exact .inl ⟨wk.stop S' H' δ' σ' G' s'.toStq, (mapS (o := .nx δ') h') S' H' σ' a (s1.trans b)⟩

/-! ### while -/
theorem sS_while {c : Expr} {body : List Stmt} {mc : E} {mb : Sts} {pos : Pos} (hp : PassesOwn (model X.prog X.w) X.A X.env X.xe) (hc : PT X c (rdT T W mc)) (hb : PSs X body (rdSs T W mb)) : PS X (.While c body [] pos) (rdS T W (.while_ mc mb)) := by
  refine PS.mono (ps_while hp hc hb) fun En σ H ⟨S, δ, G, h⟩ => ?_
  simp only [denS] at h
  generalize FUEL = n at h
  refine ⟨fun m σ' H' => ∃ S' δ', Good T S' H' δ' σ' ∧ OutSP T W S' H' δ' σ' (whileL (fun δ => (den mc δ).bind isB) (fun δ => denSs mb δ) m δ') En, ⟨n, S, δ, G, h⟩, ?_⟩
  rintro m σ' H' ⟨S', δ', G', h'⟩
  cases m with
  | zero => simp only [whileL] at h'; exact h'.elim
  | succ m =>
    simp only [whileL] at h'
    refine ⟨S', δ', G', h'.exp'.mono fun b δ1 S1 H1 G1 s1 h1 => ?_⟩
    cases b with
    | false => exact h1 S1 H1 σ' G1 (.refl ..)
    | true =>
      simp only [if_true] at h1
      refine ⟨fun σ2 H2 => ∃ S2 δ2, Good T S2 H2 δ2 σ2 ∧ OutSP T W S2 H2 δ2 σ2 (whileL (fun δ => (den mc δ).bind isB) (fun δ => denSs mb δ) m δ2) En, fun σ2 H2 k => ⟨m, Nat.lt_succ_self m, k⟩, S1, δ1, G1, ?_⟩
      cases qo : denSs mb δ1 with
      | nx δc => rw [qo] at h1; exact fun S3 H3 σ3 G3 s4 => ⟨S3, δc, G3, OutSP.back s4 h1⟩
      | ct δc => rw [qo] at h1; exact fun S3 H3 σ3 G3 s4 => ⟨S3, δc, G3, OutSP.back s4 h1⟩
      | bk δc => rw [qo] at h1; exact h1
      | rt r δc => rw [qo] at h1; exact h1
      | ex x δc => rw [qo] at h1; exact h1
      | bad => rw [qo] at h1; exact h1.elim
end
end Z

set_option Elab.async false
set_option linter.all false
set_option maxHeartbeats 1000000
/-! ZComp: list comprehensions. -/
namespace Z
open PySem L2
section
variable {T : Tab} {W : WX} {X : Cx} {S H : Hp} {δ : DSt} {σ : St}
theorem foldSet_get (f : Nat → Sl) : ∀ (tg : List Nat) (δ : DSt) (j : Nat), (tg.foldl (fun δ i => δ.set i (f i)) δ)[j]? = if j ∈ tg ∧ j < δ.length then some (f j) else δ[j]?
  | [], δ, j => by simp
  | i :: tg, δ, j => by
    rw [List.foldl_cons, foldSet_get f tg, List.length_set]
    by_cases hj : j < δ.length
    · by_cases hm : j ∈ tg
      · rw [if_pos ⟨hm, hj⟩, if_pos ⟨List.mem_cons_of_mem _ hm, hj⟩]
      · rw [if_neg (fun z => hm z.1)]
        by_cases hij : i = j
        · subst hij
          rw [if_pos ⟨List.mem_cons_self, hj⟩, List.getElem?_set_self hj]
        · rw [if_neg (fun z => (List.mem_cons.mp z.1).elim (fun w => hij w.symm) hm), List.getElem?_set_ne hij]
    · rw [if_neg (fun z => hj z.2), if_neg (fun z => hj z.2), List.getElem?_eq_none_iff.mpr (by rw [List.length_set]; omega), List.getElem?_eq_none_iff.mpr (by omega)]
theorem wipeD_get (tg : List Nat) (δ : DSt) (j : Nat) : (wipeD tg δ)[j]? = if j ∈ tg ∧ j < δ.length then some none else δ[j]? := foldSet_get (fun _ => none) tg δ j
theorem backW_get (tg : List Nat) (δ0 δ : DSt) (j : Nat) : (backW tg δ0 δ)[j]? = if j ∈ tg ∧ j < δ.length then some ((δ0[j]?).join) else δ[j]? := foldSet_get (fun j => (δ0[j]?).join) tg δ j
theorem foldSet_len (f : Nat → Sl) : ∀ (tg : List Nat) (δ : DSt), (tg.foldl (fun δ i => δ.set i (f i)) δ).length = δ.length
  | [], δ => rfl
  | i :: tg, δ => by rw [List.foldl_cons, foldSet_len f tg, List.length_set]
theorem wipeD_len (tg : List Nat) (δ : DSt) : (wipeD tg δ).length = δ.length := foldSet_len _ tg δ
theorem backW_len (tg : List Nat) (δ0 δ : DSt) : (backW tg δ0 δ).length = δ.length := foldSet_len _ tg δ
/-- a slot of the wiped state -/
theorem wiped {tg : List Nat} {j : Nat} {m : Md} {d : D} (h : (wipeD tg δ)[j]? = some (some (m, d))) : δ[j]? = some (some (m, d)) ∧ (j ∉ tg) := by
  rw [wipeD_get] at h
  split at h
  · cases h
  · rename_i hn
    refine ⟨h, fun z => hn ⟨z, (List.getElem?_eq_some_iff.mp h).1⟩⟩
theorem wipe_out {tg : List Nat} {j : Nat} (h : j ∉ tg) : (wipe σ tg)[j]? = σ[j]? := by
  rw [wipe_get, if_neg (fun z => h z.1)]
theorem wipeD_out {tg : List Nat} {j : Nat} (h : j ∉ tg) : (wipeD tg δ)[j]? = δ[j]? := by
  rw [wipeD_get, if_neg (fun z => h z.1)]
theorem Good.wipe (G : Good T S H δ σ) (tg : List Nat) : Good T S H (wipeD tg δ) (L2.wipe σ tg) := by
  have own : ∀ {i : Nat} {a : Addr}, OwnAt (wipeD tg δ) (L2.wipe σ tg) i a → OwnAt δ σ i a := fun {i a} ⟨m, d, e1, e2, e3⟩ => by
    obtain ⟨w, hn⟩ := wiped e1
    rw [wipe_out hn] at e3
    exact ⟨m, d, w, e2, e3⟩
  refine ⟨G.sub, by rw [wipeD_len, wipe_length]; exact G.len, fun i m d e => ?_, fun i j a x y => G.inj i j a (own x) (own y), G.nown⟩
  obtain ⟨w, hn⟩ := wiped e
  rw [wipe_out hn]
  exact G.slot i m d w
/-- an earlier state with fewer slots -/
theorem wipe_stq (tg : List Nat) : Stq S H δ σ S H (wipeD tg δ) (L2.wipe σ tg) := by
  refine ⟨.refl S, fun _ _ e _ _ => e, fun _ _ e => .inl e, fun b ⟨i, m, d, e1, e2, e3⟩ => .inl ?_, fun b ⟨i, d, e1, e3⟩ => .inl ?_, fun _ e => e⟩
  · obtain ⟨w, hn⟩ := wiped e1
    rw [wipe_out hn] at e3
    exact ⟨i, m, d, w, e2, e3⟩
  · obtain ⟨w, hn⟩ := wiped e1
    rw [wipe_out hn] at e3
    exact ⟨i, d, w, e3⟩
/-- the names of a comprehension get back what they had -/
theorem back_ok {S1 H1 S2 H2 : Hp} {δ1 δL δ2 : DSt} {tg : List Nat} (G1 : Good T S1 H1 δ1 σ) (hL : ∀ j, j ∈ tg → δL[j]? = δ1[j]?) (hlen : δL.length = δ1.length) (hf : freeT tg δ1 = true) (G2 : Good T S2 H2 (wipeD tg δ2) (L2.wipe σ tg)) (s : Stp S1 H1 (wipeD tg δL) (L2.wipe σ tg) S2 H2 (wipeD tg δ2) (L2.wipe σ tg)) :
    Good T S2 H2 (backW tg δ1 δ2) σ ∧ Stp S1 H1 δL σ S2 H2 (backW tg δ1 δ2) σ := by
  have l2 : δ2.length = σ.length := by
    have := G2.len
    rwa [wipeD_len, wipe_length] at this
  -- a slot of the new state
  have sl : ∀ {j : Nat} {m : Md} {d : D}, (backW tg δ1 δ2)[j]? = some (some (m, d)) → (j ∈ tg ∧ m = .fz ∧ δ1[j]? = some (some (m, d))) ∨ (j ∉ tg ∧ (wipeD tg δ2)[j]? = some (some (m, d))) := fun {j m d} e => by
    rw [backW_get] at e
    split at e
    · rename_i hj
      have e := Option.some.inj e
      have q : slotD δ1 j = some (m, d) := e
      have := List.all_eq_true.mp hf j hj.1
      rw [q] at this
      refine .inl ⟨hj.1, ?_, slotD_get q⟩
      cases m <;> first | rfl | cases this
    · rename_i hj
      have hn : j ∉ tg := fun z => hj ⟨z, (List.getElem?_eq_some_iff.mp e).1⟩
      exact .inr ⟨hn, by rw [wipeD_out hn]; exact e⟩
  have own : ∀ {j : Nat} {a : Addr}, OwnAt (backW tg δ1 δ2) σ j a → OwnAt (wipeD tg δ2) (L2.wipe σ tg) j a := fun {j a} ⟨m, d, e1, e2, e3⟩ => by
    rcases sl e1 with ⟨_, z, _⟩ | ⟨hn, w⟩
    · exact absurd z e2
    · exact ⟨m, d, w, e2, by rw [wipe_out hn]; exact e3⟩
  refine ⟨⟨G2.sub, by rw [backW_len]; exact l2, fun j m d e => ?_, fun i j a x y => G2.inj i j a (own x) (own y), G2.nown⟩, ⟨⟨s.ext, fun b o e n k => ?_, fun b o e => ?_, fun b ⟨j, m, d, e1, e2, e3⟩ => ?_, fun b ⟨j, d, e1, e3⟩ => ?_, s.dom⟩, fun j m d e h => ?_⟩⟩
  · rcases sl e with ⟨_, z, w⟩ | ⟨hn, w⟩
    · subst z
      obtain ⟨v, q1, q2, _⟩ := G1.slot j _ d w
      exact ⟨v, q1, fun _ => (q2 rfl).sub s.ext, fun z => absurd rfl z⟩
    · obtain ⟨v, q1, q2⟩ := G2.slot j m d w
      rw [wipe_out hn] at q1
      exact ⟨v, q1, q2⟩
  · have up : ∀ {c : Addr}, MutA (wipeD tg δL) (L2.wipe σ tg) c → MutA δL σ c := fun {c} ⟨j, m, d, e1, e2, e3⟩ => by
      obtain ⟨w, hn⟩ := wiped e1
      rw [wipe_out hn] at e3
      exact ⟨j, m, d, w, e2, e3⟩
    exact s.keep b o e (fun z => n (up z)) fun c q => ⟨fun z => (k c q).1 (up z), (k c q).2⟩
  · rcases s.new b o e with z | ⟨z | z | z, w⟩
    · exact .inl z
    · exact .inr ⟨.inl z, w⟩
    · obtain ⟨j, d, e1, e3⟩ := z
      obtain ⟨w', hn⟩ := wiped e1
      rw [wipe_out hn] at e3
      exact .inr ⟨.inr (.inl ⟨j, d, w', e3⟩), w⟩
    · exact .inr ⟨.inr (.inr z), w⟩
  · rcases sl e1 with ⟨_, z, _⟩ | ⟨hn, w⟩
    · subst z; rcases e2 with z | z <;> cases z
    · rcases s.mu b ⟨j, m, d, w, e2, by rw [wipe_out hn]; exact e3⟩ with ⟨j', m', d', f1, f2, f3⟩ | z
      · obtain ⟨w', hn'⟩ := wiped f1
        rw [wipe_out hn'] at f3
        exact .inl ⟨j', m', d', w', f2, f3⟩
      · exact .inr z
  · rcases sl e1 with ⟨_, z, _⟩ | ⟨hn, w⟩
    · cases z
    · rcases s.mov b ⟨j, d, w, by rw [wipe_out hn]; exact e3⟩ with ⟨j', d', f1, f3⟩ | z
      · obtain ⟨w', hn'⟩ := wiped f1
        rw [wipe_out hn'] at f3
        exact .inl ⟨j', d', w', f3⟩
      · exact .inr z
  · rcases sl e with ⟨_, z, _⟩ | ⟨hn, w⟩
    · subst z; rcases h with z | z <;> cases z
    · obtain ⟨_, d0, f1, f2⟩ := s.kp j m d w h
      exact ⟨rfl, d0, (wiped f1).1, f2⟩
/-- an object that is nobody's changes -/
theorem temp_ok {S0 H0 : Hp} {δ0 : DSt} {σ0 : St} {a : Addr} {xs ys : List V} (G : Good T S H δ σ) (s : Stp S0 H0 δ0 σ0 S H δ σ) (h0 : H0 a = none) (h1 : S a = none) (h2 : H a = some (.lst xs)) (n : ¬ Owned δ σ a) :
    Good T S (upd H a (.lst ys)) δ σ ∧ Stp S0 H0 δ0 σ0 S (upd H a (.lst ys)) δ σ := by
  refine ⟨⟨fun b o e => ?_, G.len, fun i m d e => ?_, G.inj, G.nown⟩, ⟨⟨s.ext, fun b o e n k => ?_, s.new, s.mu, s.mov, fun b e => ?_⟩, s.kp⟩⟩
  · rw [upd_ne (fun z => by rw [z, h1] at e; cases e)]
    exact G.sub b o e
  · obtain ⟨v, q1, q2, q3⟩ := G.slot i m d e
    refine ⟨v, q1, q2, fun z => ?_⟩
    obtain ⟨b, rfl, o⟩ := q3 z
    have nb : b ≠ a := fun w => n ⟨i, m, d, e, z, by rw [← w]; exact q1⟩
    refine ⟨b, rfl, o.at_ o.there.1 (.refl S) (fun u hu => by rw [upd_ne nb]; exact hu) fun c hc => ?_⟩
    rw [upd_ne]
    intro w
    subst w
    rcases hc with hc | hc <;> (rw [h2] at hc; cases hc)
  · rw [upd_ne (fun z => by rw [z, h0] at e; cases e)]
    exact s.keep b o e n k
  · by_cases hb : b = a
    · subst hb; rw [upd_same] at e; cases e
    · rw [upd_ne hb] at e; exact s.dom b e
theorem wipe_idem (σ : St) (tg : List Nat) : wipe (wipe σ tg) tg = wipe σ tg := by
  apply List.ext_getElem?
  intro j
  rw [wipe_get, wipe_get, wipe_length]
  split <;> rfl
def W0 : WX := fun _ _ _ _ => False
/-- the element of a comprehension -/
def eltD (m : E) : DSt → Out D := fun δ => (den m δ).bind fun r δ => (frz r δ).bind fun x δ => match res δ x with
  | some d => .ok d δ
  | none => .bad
theorem bind_ok {α β : Type} {o : Out α} {f : α → DSt → Out β} {b : β} {δ' : DSt} (h : o.bind f = .ok b δ') : ∃ a δ1, o = .ok a δ1 ∧ f a δ1 = .ok b δ' := by
  cases o with
  | ok a δ1 => exact ⟨a, δ1, rfl, h⟩
  | ex x δ1 => cases h
  | bad => cases h
def rdC0 (T : Tab) : OE → TT
  | .none => tYes
  | .some m => rdT T W0 m
/-- the loop of a comprehension, its list at L -/
theorem comp_core {J : It} {g : TG} {tg : List Nat} {cond : OE} {elt : E} {S1 H1 : Hp} {δ1 δL : DSt} {ds : List D} {dsF : List D} {δF : DSt} {L : Addr} {Q : V → Hp → Prop} (hgo : TgOk T tg g) (GL : Good T S1 H1 δL σ) (wk : WalkD T S1 H1 δL σ ds J)
    (hL : H1 L = none) (hc : compL tg (denC cond) (eltD elt) ds [] (wipeD tg δL) = .ok dsF δF)
    (fin : ∀ S' H' vs, Good T S' H' (wipeD tg δF) (wipe σ tg) → Stp S1 H1 (wipeD tg δL) (wipe σ tg) S' H' (wipeD tg δF) (wipe σ tg) → H' L = some (.lst vs) → RepL T S' vs dsF → S' L = none → ¬ Owned (wipeD tg δF) (wipe σ tg) L → Q (.ref L) H') :
    ∃ W : Nat → Nat → Hp → Prop, (∃ m, W 0 m (upd H1 L (.lst []))) ∧ ∀ i m H, W i m H →
      (J.stop i H ∧ Q (.ref L) H) ∨ (J.go i H ∧ ∃ Nx : Hp → Prop, (∀ H', Nx H' → ∃ m', m' < m ∧ W (i + 1) m' H') ∧ ∀ x H', J.yld i H x H' → g x (wipe σ tg) H' fun σ2 H2 => wipe σ2 tg = wipe σ tg ∧ rdC0 T cond σ2 H2 fun b H3 =>
        if b = true then rdE T W0 elt σ2 H3 fun y H4 => ∃ acc, H4 L = some (.lst acc) ∧ acc.length < sizeLine ∧ Nx (upd H4 L (.lst (acc ++ [y]))) else Nx H3) := by
  have Gw := GL.wipe tg
  have sw := wipe_stq (S := S1) (H := H1) (δ := δL) (σ := σ) tg
  have wlen : ∀ δ, wipeD tg (wipeD tg δ) = wipeD tg δ := fun δ => by
    apply List.ext_getElem?
    intro j
    rw [wipeD_get, wipeD_get, wipeD_len]
    split <;> rfl
  -- what stands at a turn
  let Inv (i : Nat) (H' : Hp) : Prop := ∃ S' δ' acc vs, Good T S' H' (wipeD tg δ') (wipe σ tg) ∧ Stp S1 H1 (wipeD tg δL) (wipe σ tg) S' H' (wipeD tg δ') (wipe σ tg) ∧ H' L = some (.lst vs) ∧ RepL T S' vs acc ∧ S' L = none ∧ ¬ Owned (wipeD tg δ') (wipe σ tg) L ∧
    compL tg (denC cond) (eltD elt) (ds.drop i) acc δ' = .ok dsF δF
  refine ⟨fun i m H' => m = ds.length - i ∧ i ≤ ds.length ∧ Inv i H', ⟨ds.length, by simp, Nat.zero_le _, S1, wipeD tg δL, [], [], ?_, ?_, upd_same, .nil, snone GL.sub hL, ?_, hc⟩, ?_⟩
  · rw [wlen]; exact Gw.grow (.mine GL.sub hL)
  · rw [wlen]; exact (Grow.mine GL.sub hL).stp _ _
  · rw [wlen]; exact Gw.nowned hL
  rintro i m H' ⟨rfl, hi, S', δ', acc, vs, G', s', e1, e2, e3, e4, hc'⟩
  by_cases hlt : i < ds.length
  · have stq : Stq S1 H1 δL σ S' H' (wipeD tg δ') (wipe σ tg) := sw.trans s'.toStq
    refine .inr ⟨wk.go S' H' _ _ i G' stq hlt, Inv (i + 1), fun H2 k => ⟨ds.length - (i + 1), by omega, rfl, hlt, k⟩, fun x H2 y => ?_⟩
    obtain ⟨S2, d, gr, f1, f2⟩ := wk.yld S' H' _ _ i x H2 G' stq hlt y
    have ed : ds.drop i = d :: ds.drop (i + 1) := by
      rw [List.drop_eq_getElem_cons hlt]
      rw [List.getElem?_eq_getElem hlt] at f1
      cases f1
      rfl
    rw [ed] at hc'
    simp only [compL] at hc'
    cases qb : bindT tg d (wipeD tg δ') with
    | none => rw [qb] at hc'; cases hc'
    | some δb =>
      rw [qb] at hc'
      simp only [] at hc'
      refine hgo S2 H2 _ _ d x δb _ (G'.grow gr) f2 qb fun σb Gb sb ag => ⟨by rw [ag.wipe, wipe_idem], ?_⟩
      have s2 : Stp S1 H1 (wipeD tg δL) (wipe σ tg) S2 H2 δb σb := (s'.trans (gr.stp _ _)).trans sb
      have H2L : H2 L = some (.lst vs) := gr.keep _ _ e1
      have S2L : S2 L = none := by
        cases w : S2 L with
        | none => rfl
        | some u =>
          have hu := gr.sub L u w
          rw [H2L] at hu; cases hu
          rcases gr.new L _ w with z | ⟨z | z, _⟩
          · rw [e3] at z; cases z
          · rw [e1] at z; cases z
          · cases z
      have nO : ¬ Owned δb σb L := fun ⟨j, m, d0, x1, x2, x3⟩ => by
        by_cases hm : m = .ow ∨ m = .io
        · rcases sb.mu L ⟨j, m, d0, x1, hm, x3⟩ with z | z
          · exact e4 z.owned
          · rw [H2L] at z; cases z
        · have hm : m = .lk := by cases m <;> simp_all
          subst hm
          obtain ⟨k1, d1, k2, _⟩ := sb.kp j .lk d0 x1 (.inr rfl)
          rw [k1] at x3
          exact absurd ⟨j, .lk, d1, k2, by decide, x3⟩ e4
      -- the element, behind the test
      have go : ∀ {S3 H3 : Hp} {δ3 : DSt}, Good T S3 H3 δ3 σb → Stp S2 H2 δb σb S3 H3 δ3 σb → H3 L = some (.lst vs) → S3 L = none → ¬ Owned δ3 σb L → ((eltD elt δ3).bind fun d δ => if acc.length < sizeL then compL tg (denC cond) (eltD elt) (ds.drop (i + 1)) (acc ++ [d]) δ else .bad) = .ok dsF δF →
          rdE T W0 elt σb H3 fun y H4 => ∃ acc, H4 L = some (.lst acc) ∧ acc.length < sizeLine ∧ Inv (i + 1) (upd H4 L (.lst (acc ++ [y]))) := fun {S3 H3 δ3} G3 s3 h3 h3' h3n hq => by
        obtain ⟨d1, δ4, q1, q2⟩ := bind_ok hq
        obtain ⟨r, δ5, q3, q4⟩ := bind_ok q1
        obtain ⟨xa, δ6, q5, q6⟩ := bind_ok q4
        refine ⟨S3, δ3, G3, ?_⟩
        rw [q3]
        intro S5 H5 G5 s5 v hr
        have hk : OutP T W0 σb S3 H3 δ3 (frz r δ5) fun x δ S H => x = xa ∧ δ = δ6 := by
          rw [q5]
          exact fun _ _ _ _ => ⟨rfl, rfl⟩
        obtain ⟨x6, S6, z1, G6, s6, ax, k1, k2⟩ := frz_ok G5 s5 hr hk
        subst x6
        rw [q5] at z1
        injection z1 with z1 z2
        subst z2
        have H5L : H5 L = some (.lst vs) := s6.keep L _ h3 (fun m => h3n m.owned) (by simp)
        have nO6 : ¬ Owned δ6 σb L := fun ⟨j, m, d0, x1, x2, x3⟩ => by
          by_cases hm : m = .ow ∨ m = .io
          · rcases s6.mu L ⟨j, m, d0, x1, hm, x3⟩ with z | z
            · exact h3n z.owned
            · rw [h3] at z; cases z
          · have hm : m = .lk := by cases m <;> simp_all
            subst hm
            obtain ⟨_, d1, k2, _⟩ := s6.kp j .lk d0 x1 (.inr rfl)
            exact h3n ⟨j, .lk, d1, k2, by decide, x3⟩
        have S6L : S6 L = none := by
          cases w : S6 L with
          | none => rfl
          | some u =>
            have hu := G6.sub L u w
            rw [H5L] at hu; cases hu
            rcases s6.new L _ w with z | ⟨z | z | z, _⟩
            · rw [h3'] at z; cases z
            · rw [h3] at z; cases z
            · exact absurd z.mut.owned h3n
            · cases z
        split at q2
        · rename_i hlt2
          refine ⟨vs, H5L, by rw [e2.length]; exact sizeL_lt hlt2, ?_⟩
          have Gz := G6.wipe tg
          have swz : wipe σb tg = wipe σ tg := by rw [ag.wipe, wipe_idem]
          rw [swz] at Gz
          have sz : Stp S1 H1 (wipeD tg δL) (wipe σ tg) S6 H5 (wipeD tg δ6) (wipe σ tg) := by
            have t := (s2.trans s3).trans s6
            refine ⟨t.toStq.trans (by rw [← swz]; exact wipe_stq tg), fun j m d0 x1 x2 => ?_⟩
            obtain ⟨w1, w2⟩ := wiped x1
            obtain ⟨k1, d2, k2, k3⟩ := t.kp j m d0 w1 x2
            exact ⟨rfl, d2, k2, k3⟩
          have nOz : ¬ Owned (wipeD tg δ6) (wipe σ tg) L := fun ⟨j, m, d0, x1, x2, x3⟩ => by
            obtain ⟨w1, w2⟩ := wiped x1
            rw [← swz, wipe_out w2] at x3
            exact nO6 ⟨j, m, d0, w1, x2, x3⟩
          obtain ⟨Ga, sa⟩ := temp_ok (ys := vs ++ [v]) Gz sz hL S6L H5L nOz
          have rd : Rep T S6 v d1 := by
            cases xa with
            | pk j =>
              cases r with
              | fz d => simp only [frz] at q5; cases q5
              | fr d => simp only [frz] at q5; split at q5 <;> cases q5
            | val d => simp only [res] at q6; cases q6; exact ax
          have e2' : RepL T S6 vs acc := by
            exact ((e2.sub gr.ext).sub s3.ext).sub s6.ext
          have hδ : δ4 = δ6 := by
            cases hx : res δ6 xa with
            | none => rw [hx] at q6; cases q6
            | some dd => rw [hx] at q6; cases q6; rfl
          subst hδ
          exact ⟨S6, δ4, acc ++ [d1], vs ++ [v], Ga, sa, upd_same, e2'.append (.cons rd .nil), S6L, nOz, q2⟩
        · cases q2
      -- behind the test where the item is left out
      cases cond with
      | none =>
        simp only [denC] at hc'
        exact go Gb (.refl ..) H2L S2L nO hc'
      | some mc =>
        simp only [denC] at hc'
        obtain ⟨b, δc, q1, q2⟩ := bind_ok hc'
        show rdT T W0 mc σb H2 _
        refine ⟨S2, δb, Gb, ?_⟩
        rw [q1]
        intro S3 H3 G3 s3
        have H3L : H3 L = some (.lst vs) := s3.keep L _ H2L (fun m => nO m.owned) (by simp)
        have nO3 : ¬ Owned δc σb L := fun ⟨j, m, d0, x1, x2, x3⟩ => by
          by_cases hm : m = .ow ∨ m = .io
          · rcases s3.mu L ⟨j, m, d0, x1, hm, x3⟩ with z | z
            · exact nO z.owned
            · rw [H2L] at z; cases z
          · have hm : m = .lk := by cases m <;> simp_all
            subst hm
            obtain ⟨_, d1, k2, _⟩ := s3.kp j .lk d0 x1 (.inr rfl)
            exact nO ⟨j, .lk, d1, k2, by decide, x3⟩
        have S3L : S3 L = none := by
          cases w : S3 L with
          | none => rfl
          | some u =>
            have hu := G3.sub L u w
            rw [H3L] at hu; cases hu
            rcases s3.new L _ w with z | ⟨z | z | z, _⟩
            · rw [S2L] at z; cases z
            · rw [H2L] at z; cases z
            · exact absurd z.mut.owned nO
            · cases z
        cases b with
        | true => exact go G3 s3 H3L S3L nO3 q2
        | false =>
          simp only [Bool.false_eq_true, if_false] at q2 ⊢
          have swz : wipe σb tg = wipe σ tg := by rw [ag.wipe, wipe_idem]
          have Gz := G3.wipe tg
          rw [swz] at Gz
          have t := s2.trans s3
          refine ⟨S3, δc, acc, vs, Gz, ⟨t.toStq.trans (by rw [← swz]; exact wipe_stq tg), fun j m d0 x1 x2 => ?_⟩, H3L, (e2.sub gr.ext).sub s3.ext, S3L, fun ⟨j, m, d0, x1, x2, x3⟩ => ?_, q2⟩
          · obtain ⟨w1, w2⟩ := wiped x1
            obtain ⟨k1, d2, k2, k3⟩ := t.kp j m d0 w1 x2
            exact ⟨rfl, d2, k2, k3⟩
          · obtain ⟨w1, w2⟩ := wiped x1
            rw [← swz, wipe_out w2] at x3
            exact nO3 ⟨j, m, d0, w1, x2, x3⟩
  · have e : i = ds.length := by omega
    subst e
    rw [List.drop_length] at hc'
    simp only [compL] at hc'
    cases hc'
    exact .inl ⟨wk.stop S' H' _ _ G' (sw.trans s'.toStq), fin S' H' vs G' s' e1 e2 e3 e4⟩
end
end Z

set_option Elab.async false
set_option linter.all false
set_option maxHeartbeats 1000000
/-! ZComp2: list comprehensions as values, and name = [..]. -/
namespace Z
open PySem L2
section
variable {T : Tab} {W : WX} {X : Cx} {S H : Hp} {δ : DSt} {σ : St}
/-- what den does behind the source -/
def compD (tg : List Nat) (cond : OE) (elt : E) (p : List D × Option Nat) (δ1 : DSt) : Out R := if freeT tg δ1 then
      (compL tg (denC cond) (eltD elt) p.1 [] (wipeD tg (lockD δ1 p.2))).bind fun ds δ2 => .ok (.fr (.lst ds)) (openD δ1 (backW tg δ1 δ2) p.2)
      else .bad
theorem free_lock {tg : List Nat} {δ1 : DSt} {l : Option Nat} (hf : freeT tg δ1 = true) : ∀ j, j ∈ tg → (lockD δ1 l)[j]? = δ1[j]? := fun j hj => by
  rcases lock_cases δ1 l with e | ⟨i, m, d, rfl, q, hm, e⟩
  · rw [e]
  · rw [e]
    by_cases hij : i = j
    · subst hij
      have := List.all_eq_true.mp hf i hj
      rw [q] at this
      cases m <;> first | exact absurd rfl hm | cases this
    · rw [List.getElem?_set_ne hij]
theorem noEx_ok {α : Type} {o : Out α} {k : α → DSt → Hp → Hp → Prop} (h : OutP T W σ S H δ (noEx o) k) : ∃ a δ', o = .ok a δ' ∧ OutP T W σ S H δ (.ok a δ') k := by
  cases o with
  | ok a δ' => exact ⟨a, δ', rfl, h⟩
  | ex x δ' => exact h.elim
  | bad => exact h.elim
theorem comp_rd {g : TG} {tg : List Nat} {src : Src} {cond : OE} {elt : E} {Q : VK} (hgo : TgOk T tg g) (G : Good T S H δ σ)
    (h : OutP T W σ S H δ (den (.comp tg src cond elt) δ) fun r δ' S' H' => ∀ v, ResOk T H δ S' H' δ' σ v r → Q v H') : tLc (rdSrc T W src) g (rdC0 T cond) (rdE T W0 elt) tg σ H Q := by
  refine ⟨S, δ, G, ?_⟩
  have hd : den (.comp tg src cond elt) δ = noEx ((denSrc src δ).bind (compD tg cond elt)) := by
    rw [den.eq_def]
    rfl
  rw [hd] at h
  obtain ⟨r, δ', e, h⟩ := noEx_ok h
  obtain ⟨p, δ1, e1, e2⟩ := bind_ok e
  rw [e1]
  intro S1 H1 G1 s1 J wk L hL
  obtain ⟨ds, l⟩ := p
  unfold compD at e2
  split at e2
  · rename_i hf
    obtain ⟨dsF, δF, e3, e4⟩ := bind_ok e2
    injection e4 with e4 e5
    subst e4 e5
    obtain ⟨GL, sL⟩ := G1.lock l
    refine comp_core (δ1 := δ1) hgo GL wk hL e3 fun S' H' vs G' s' x1 x2 x3 x4 => ?_
    obtain ⟨Gb, sb⟩ := back_ok G1 (free_lock hf) (lockD_len l) hf G' s'
    obtain ⟨Gu, su, ow⟩ := G1.unlock l Gb sb
    refine h S' H' Gu (s1.trans su) (.ref L) ⟨L, rfl, .lst x3 x1 x2, fun z => ?_, .inl (s1.dom L hL)⟩
    obtain ⟨j, m, d, y1, y2, y3⟩ := ow L z
    rw [backW_get] at y1
    split at y1
    · rename_i hj
      have y1 := Option.some.inj y1
      have := List.all_eq_true.mp hf j hj.1
      have sd : slotD δ1 j = some (m, d) := by
        unfold slotD
        cases w : δ1[j]? with
        | none => rw [w] at y1; cases y1
        | some u => rw [w] at y1; exact y1
      rw [sd] at this
      cases m <;> first | exact absurd rfl y2 | cases this
    · rename_i hj
      have hn : j ∉ tg := fun w => hj ⟨w, (List.getElem?_eq_some_iff.mp y1).1⟩
      exact x4 ⟨j, m, d, by rw [wipeD_out hn]; exact y1, y2, by rw [wipe_out hn]; exact y3⟩
  · cases e2
theorem sE_comp {elt tg iter : Expr} {ifs : List Expr} {scope : Scope} {own : List (Str × Nat)} {pos : Pos} {g : TG} {tgs : List Nat} {src : Src} {cond : OE} {m : E} (hc : X.calm = true) (hN : X.N.Nodup) (hi : PI X tg iter (rdSrc T W src)) (ok : BlkOk X.N X.env.scope scope own) (ho : own.map (·.2) = tgs) (hgo : TgOk T tgs g)
    (hg : ∀ (s : Shared) (H : Hp) (C : Addr) (cl : List (Str × Addr)) (fp : List Addr), PG (X.blk s H scope (compEnvC scope cl C X.env) fp) tg g) (ht : ∀ (s : Shared) (H : Hp) (C : Addr) (cl : List (Str × Addr)) (fp : List Addr), PTs (X.blk s H scope (compEnvC scope cl C X.env) fp) ifs (rdC0 T cond))
    (he : ∀ (s : Shared) (H : Hp) (C : Addr) (cl : List (Str × Addr)) (fp : List Addr), PE (X.blk s H scope (compEnvC scope cl C X.env) fp) elt (rdE T W0 m)) (hs : ∀ x, foldedSetIterable iter X.env x = pure x) :
    PE X (.ListComp elt [⟨tg, iter, ifs, 0⟩] scope pos) (rdE T W (.comp tgs src cond m)) := by
  subst ho
  exact PE.mono (pe_lc hc hN hi ok hg ht he hs) fun σ H Q ⟨S, δ, G, h⟩ => comp_rd hgo G h
theorem sS_setcomp {i : Nat} {y : Str} {py : Pos} {elt tg iter : Expr} {ifs : List Expr} {scope : Scope} {own : List (Str × Nat)} {pos spos : Pos} {g : TG} {tgs : List Nat} {src : Src} {cond : OE} {m : E} (hc : X.calm = true) (hN : X.N.Nodup) (hy : X.N[i]? = some y) (hyl : X.env.scope.names.lookup y = some .local)
    (hsw : swapsWith (.ListComp elt [⟨tg, iter, ifs, 0⟩] scope pos) (some (.Name y py)) spos.line X.env = pure true) (hi : PI X tg iter (rdSrc T W src)) (ok : BlkOk X.N X.env.scope scope own) (ho : own.map (·.2) = tgs) (hgo : TgOk T tgs g)
    (hg : ∀ (s : Shared) (H : Hp) (C : Addr) (cl : List (Str × Addr)) (fp : List Addr), PG (X.blk s H scope (compEnvC scope cl C X.env) fp) tg g) (ht : ∀ (s : Shared) (H : Hp) (C : Addr) (cl : List (Str × Addr)) (fp : List Addr), PTs (X.blk s H scope (compEnvC scope cl C X.env) fp) ifs (rdC0 T cond))
    (he : ∀ (s : Shared) (H : Hp) (C : Addr) (cl : List (Str × Addr)) (fp : List Addr), PE (X.blk s H scope (compEnvC scope cl C X.env) fp) elt (rdE T W0 m)) (hs : ∀ x, foldedSetIterable iter X.env x = pure x) :
    PS X (.Assign [.Name y py] (.ListComp elt [⟨tg, iter, ifs, 0⟩] scope pos) spos) (rdS T W (.set i (.comp tgs src cond m))) := by
  subst ho
  refine PS.mono (ps_setLc hc hN hy hyl hsw hi ok hg ht he hs) fun En σ H ⟨S, δ, G, h⟩ => ?_
  simp only [denS] at h
  exact comp_rd hgo G (h.exp.mono fun r δ1 S1 H1 G1 s1 h1 v hr => set_ok G1 s1 hr h1)
end
end Z

set_option Elab.async false
set_option linter.all false
set_option maxHeartbeats 1000000
/-! ZZip: zip of two, each a text, a list or a tuple. -/
namespace Z
open PySem PySem.Spec PyProof.Rows L2
inductive Sd where
  | txt (x : Str) | ls (a : Addr) | tp (a : Addr)
def Sd.v : Sd → V
  | .txt x => .str x
  | .ls a => .ref a
  | .tp a => .ref a
def Sd.has (K : PySem.W.Frag) (H : Hp) : Sd → List V → Prop
  | .txt x, vs => vs = x.cps.toList.map fun c => V.str ⟨#[c]⟩
  | .ls a, vs => SqL K H a vs
  | .tp a, vs => SqT K H a vs
def Sd.at_ (it : Addr) (i : Nat) (h : Heap) : Sd → Prop
  | .txt x => ∃ t, h.IsStrIter it (strIterType x) x t i
  | .ls a => h.IsListIter it a i
  | .tp a => h.IsTupleIter it a i
def Sd.off (c : Addr) : Sd → Prop
  | .txt _ => True
  | .ls a => a ≠ c
  | .tp a => a ≠ c
theorem Sd.at_keep {side : Sd} {it : Addr} {i : Nat} {h h' : Heap} (st : side.at_ it i h) (k : ∀ o, h.get? it = some o → h'.get? it = some o) : side.at_ it i h' := by
  cases side with
  | txt x => obtain ⟨t, o, e, r⟩ := st; exact ⟨t, o, k o e, r⟩
  | ls a => obtain ⟨o, e, r⟩ := st; exact ⟨o, k o e, r⟩
  | tp a => obtain ⟨o, e, r⟩ := st; exact ⟨o, k o e, r⟩
theorem Sd.at_obj {side : Sd} {it : Addr} {i : Nat} {h : Heap} (st : side.at_ it i h) : ∃ o vs, h.get? it = some o ∧ o.data = .fields vs := by
  cases side with
  | txt x => obtain ⟨t, o, e, _, r⟩ := st; exact ⟨o, _, e, r⟩
  | ls a => obtain ⟨o, e, _, r⟩ := st; exact ⟨o, _, e, r⟩
  | tp a => obtain ⟨o, e, _, r⟩ := st; exact ⟨o, _, e, r⟩
theorem Sd.draws {X : Cx} {pins : List (Addr × Obj)} {σ : L2.St} {H : Hp} {s : Shared} {side : Sd} {xs : List V} {it : Addr} {i : Nat} (I : Inv X pins σ H s) (h : side.has X.K H xs) (hh : X.A.handled = none) (st : side.at_ it i s.heap) (ho : side.off it) :
    ∃ (fp : List Addr) (P : Nat → Value → Prop) (St : Nat → Heap → Prop), Draws X.prog X.w X.A.in1 it fp xs.length P St ∧ St i s.heap ∧ it ∈ fp ∧ (∀ c, side.off c → c ≠ it → c ∉ fp) ∧ (∀ j x v, xs[j]? = some x → P j v → RelV x v) ∧ (∀ j h', St j h' → side.at_ it j h') := by
  have hh' : X.A.in1.handled = none := hh
  cases side with
  | txt x =>
    obtain ⟨t, st⟩ := st
    have h : xs = x.cps.toList.map fun c => V.str ⟨#[c]⟩ := h
    subst h
    have D := Draws.text (prog := X.prog) (w := X.w) hh' it x t
    have hl : (x.cps.toList.map fun c => V.str ⟨#[c]⟩).length = x.cps.size := by simp
    rw [hl]
    refine ⟨_, _, _, D, st, by simp, fun c _ n => by simp [n], fun j y v e p => ?_, fun j h' s' => ⟨t, s'⟩⟩
    obtain ⟨c, u, e1, rfl⟩ := p
    have e2 : y = V.str ⟨#[c]⟩ := by
      rw [List.getElem?_map] at e
      have : x.cps.toList[j]? = some c := by simpa using e1
      rw [this] at e
      exact (Option.some.inj e).symm
    subst e2
    exact ⟨u, rfl⟩
  | ls a =>
    obtain ⟨its, rv, p, _⟩ := I.list h
    have hl := rv.length
    have D := Draws.list (prog := X.prog) (w := X.w) hh' it a ho its.toArray
    have hn : its.toArray.size = xs.length := by simp [hl]
    rw [hn] at D
    refine ⟨_, _, _, D, ⟨st, p.isList⟩, by simp, fun c o n => by simp [n, Ne.symm o], fun j y v e q => ?_, fun j h' s' => s'.1⟩
    obtain ⟨u, hu, ru⟩ := rv.get e
    have q : its.toArray[j]? = some v := q
    have : its[j]? = some v := by simpa using q
    rw [hu] at this
    cases this
    exact ru
  | tp a =>
    obtain ⟨its, rv, p, _⟩ := I.tuple h
    have hl := rv.length
    have D := Draws.tuple (prog := X.prog) (w := X.w) hh' it a ho its.toArray
    have hn : its.toArray.size = xs.length := by simp [hl]
    rw [hn] at D
    refine ⟨_, _, _, D, ⟨st, p⟩, by simp, fun c o n => by simp [n, Ne.symm o], fun j y v e q => ?_, fun j h' s' => s'.1⟩
    obtain ⟨u, hu, ru⟩ := rv.get e
    have q : its.toArray[j]? = some v := q
    have : its[j]? = some v := by simpa using q
    rw [hu] at this
    cases this
    exact ru
theorem Sd.inj {X : Cx} {pins : List (Addr × Obj)} {σ : L2.St} {H : Hp} {s : Shared} {side : Sd} {xs ys : List V} (I : Inv X pins σ H s) (h : side.has X.K H xs) (h' : side.has X.K H ys) : xs = ys := by
  cases side with
  | txt x => exact Eq.trans h (Eq.symm h')
  | ls a => exact I.list_inj h h'
  | tp a => exact I.tuple_inj h h'
def ItzG (K : PySem.W.Frag) (A B : Sd) : It :=
  ⟨fun i H => ∃ (xs ys : List V) (x y : V), A.has K H xs ∧ B.has K H ys ∧ xs[i]? = some x ∧ ys[i]? = some y,
    fun i H v H' => ∃ T x y, v = .ref T ∧ H T = none ∧ H' = upd H T (.tup [x, y]) ∧ (∀ xs, A.has K H xs → xs[i]? = some x) ∧ ∀ ys, B.has K H ys → ys[i]? = some y,
    fun i H => i ≤ i ∧ ∃ xs ys : List V, A.has K H xs ∧ B.has K H ys ∧ i = min xs.length ys.length⟩
theorem sep5 (n : Nat) {A B : Sd} {fp1 fp2 : List Addr} (hA : ∀ c, n ≤ c → A.off c) (hB : ∀ c, n ≤ c → B.off c) (m1 : n ∈ fp1) (f1 : ∀ c, A.off c → c ≠ n → c ∉ fp1) (m2 : n + 1 ∈ fp2) (f2 : ∀ c, B.off c → c ≠ n + 1 → c ∉ fp2) :
    ZipSep2 (n + 4) (n + 2) (n + 3) n (n + 1) fp1 fp2 where
  TIz := show (n + 2 : Nat) ≠ n + 4 by omega
  TOz := show (n + 3 : Nat) ≠ n + 4 by omega
  TITO := show (n + 2 : Nat) ≠ n + 3 by omega
  TIi1 := show (n + 2 : Nat) ≠ n by omega
  mem1 := m1
  zf1 := f1 _ (hA _ (by omega)) (show (n + 4 : Nat) ≠ n by omega)
  Tf1 := f1 _ (hA _ (by omega)) (show (n + 3 : Nat) ≠ n by omega)
  TIi2 := show (n + 2 : Nat) ≠ n + 1 by omega
  mem2 := m2
  zf2 := f2 _ (hB _ (by omega)) (show (n + 4 : Nat) ≠ n + 1 by omega)
  Tf2 := f2 _ (hB _ (by omega)) (show (n + 3 : Nat) ≠ n + 1 by omega)
  sep1_2 := f2 _ (hB _ (by omega)) (show (n : Nat) ≠ n + 1 by omega)
  sep2_1 := f1 _ (hA _ (by omega)) (show (n + 1 : Nat) ≠ n by omega)
theorem turn_zipG {P : Program} {w : World} {K : PySem.W.Frag} {elts : List Expr} {kk : Nat} {tpos : Pos} {A B : Sd} (n : Nat) (hA : ∀ c, n ≤ c → A.off c) (hB : ∀ c, n ≤ c → B.off c) :
    Turn P w K (.Tuple elts kk tpos) (ItzG K A B) [n + 4, n + 2, n + 3, n, n + 1] (n + 4) (fun i h => IsZip h (n + 4) (n + 2) (n + 3) .none ∧ IsTupOf2 h (n + 2) (.ref n) (.ref (n + 1)) ∧ (∃ x y, IsTupOf2 h (n + 3) x y) ∧ A.at_ n i h ∧ B.at_ (n + 1) i h) where
  mem := by simp
  obj := fun i h st c hc => by
    obtain ⟨hz, hTI, ⟨x, y, hTO⟩, h1, h2⟩ := st
    obtain ⟨o1, v1, e1, d1⟩ := Sd.at_obj h1
    obtain ⟨o2, v2, e2, d2⟩ := Sd.at_obj h2
    have e' : c = n + 4 ∨ c = n + 2 ∨ c = n + 3 ∨ c = n ∨ c = n + 1 := by simpa using hc
    rcases e' with q | q | q | q | q
    · rw [q]; exact ⟨_, hz, fun v q => nomatch q⟩
    · rw [q]; exact ⟨_, hTI, fun v q => nomatch q⟩
    · rw [q]; exact ⟨_, hTO, fun v q => nomatch q⟩
    · rw [q]; exact ⟨o1, e1, fun v q => by rw [d1] at q; cases q⟩
    · rw [q]; exact ⟨o2, e2, fun v q => by rw [d2] at q; cases q⟩
  keep := fun i h h' st k => by
    obtain ⟨hz, hTI, ⟨x, y, hTO⟩, h1, h2⟩ := st
    exact ⟨k (n + 4) (by simp) _ hz, k (n + 2) (by simp) _ hTI, ⟨x, y, k (n + 3) (by simp) _ hTO⟩, Sd.at_keep h1 fun o q => k n (by simp) o q, Sd.at_keep h2 fun o q => k (n + 1) (by simp) o q⟩
  item := by
    intro X hP hw hK hc i pins s σ H E I hf st hg
    subst hP hw hK
    obtain ⟨hz, hTI, ⟨x0, y0, hTO⟩, h1, h2⟩ := st
    obtain ⟨xs, ys, x, y, hqx, hqy, hx, hy⟩ := hg
    obtain ⟨fp1, P1, St1, D1, s1, m1, f1, r1, k1⟩ := Sd.draws I hqx (I.ok.hd hc) h1 (hA _ (by omega))
    obtain ⟨fp2, P2, St2, D2, s2, m2, f2, r2, k2⟩ := Sd.draws I hqy (I.ok.hd hc) h2 (hB _ (by omega))
    have S := sep5 n hA hB m1 f1 m2 f2
    have hzl : n + 4 < s.heap.objs.size := Heap.lt_size hz
    have l1 : i < xs.length := (List.getElem?_eq_some_iff.mp hx).1
    have l2 : i < ys.length := (List.getElem?_eq_some_iff.mp hy).1
    refine wpAny_pyNext_zipD2_item S D1 D2 hz hTI hTO s1 s2 l1 l2 fun u u2 h' tk p1 p2 z' TO' s1' s2' hT hsz hk => ?_
    refine ⟨_, rfl, wpAny_letOwnedTupleGo_zip (s := { s with heap := h', toks := tk }) z' fun h'' z'' sb => ?_⟩
    have hT2 : h''.get? s.heap.objs.size = some { cls := .type "tuple", data := .seq #[u, u2] } := (sb.2 _ (Nat.ne_of_gt hzl)).trans hT
    have new : ObjOk X.prog X.w (upd H s.heap.objs.size (.tup [x, y])) h'' s.heap.objs.size (.tup [x, y]) :=
      ⟨by show 2 ≤ sizeLine; decide, [u, u2], .cons (r1 i x u hx p1) (.cons (r2 i y u2 hy p2) .nil), ⟨_, hT2, rfl, _, rfl⟩⟩
    have I1 : Inv X pins σ (upd H s.heap.objs.size (.tup [x, y])) { s with heap := h'', toks := tk } :=
      I.turnedNew (t' := tk) (ch := [n + 4, n + 2, n + 3, n, n + 1]) (fun c o hb q => (sb.2 c (fun q' => hb (by simp [q']))).trans (hk c o (fun q' => hb (by simp [q'])) (fun q' => hb (by simp [q'])) (fun q' => hb (by simp [q'])) (fun q' => hb (by simp [q'])) q)) hf (Nat.le_refl _) new
    refine ⟨.ref s.heap.objs.size, _, I1, rfl, ⟨_, x, y, rfl, I.hok.fresh (Nat.le_refl _), rfl, fun l hl => by rw [Sd.inj I hl hqx]; exact hx, fun l hl => by rw [Sd.inj I hl hqy]; exact hy⟩, ⟨z'', ?_, ⟨u, u2, ?_⟩, ?_, ?_⟩, fun c hcm => ?_⟩
    · exact (sb.2 _ S.TIz).trans (hk _ _ S.TIz S.TITO S.TIi1 S.TIi2 hTI)
    · exact (sb.2 _ S.TOz).trans TO'
    · exact Sd.at_keep (k1 _ _ s1') fun o q => (sb.2 _ S.zi1.symm).trans q
    · exact Sd.at_keep (k2 _ _ s2') fun o q => (sb.2 _ S.zi2.symm).trans q
    · have hlt : c < s.heap.objs.size := by
        have e' : c = n + 4 ∨ c = n + 2 ∨ c = n + 3 ∨ c = n ∨ c = n + 1 := by simpa using hcm
        have hzl : (n + 4 : Nat) < s.heap.objs.size := hzl
        rcases e' with q | q | q | q | q <;> (rw [q]; show (_ : Nat) < _; omega)
      rw [upd_ne (Nat.ne_of_lt hlt)]
      exact (hf c hcm).1
  done := by
    intro X hP hw hK hc i pins s σ H E I hf st hg
    subst hP hw hK
    obtain ⟨hz, hTI, ⟨x0, y0, hTO⟩, h1, h2⟩ := st
    obtain ⟨_, xs, ys, hqx, hqy, hend⟩ := hg
    obtain ⟨fp1, P1, St1, D1, s1, m1, f1, r1, k1⟩ := Sd.draws I hqx (I.ok.hd hc) h1 (hA _ (by omega))
    obtain ⟨fp2, P2, St2, D2, s2, m2, f2, r2, k2⟩ := Sd.draws I hqy (I.ok.hd hc) h2 (hB _ (by omega))
    have S := sep5 n hA hB m1 f1 m2 f2
    exact wpAny_pyNext_zipD2_end S D1 D2 hz hTI hTO s1 s2 (by omega) (by omega) (by omega) fun h' tk hk => ⟨rfl, I.turnedL (t' := tk) (ch := [n + 4, n + 2, n + 3, n, n + 1]) (fun c o hb q =>
      hk c o (fun q' => hb (by simp [q'])) (fun q' => hb (by simp [q'])) (fun q' => hb (by simp [q'])) (fun q' => hb (by simp [q'])) q) hf⟩
  self := fun A i s Q E st h => wpAny_pyIter_zip st.1 h
def sdObj (u : Value) : Sd → Obj
  | .txt x => { cls := .type (strIterType x), data := .fields #[u, .int 0 0] }
  | .ls _ => { cls := .type "list_iterator", data := .fields #[u, .int 0 0] }
  | .tp _ => { cls := .type "tuple_iterator", data := .fields #[u, .int 0 0] }
theorem Sd.begins {X : Cx} {pins : List (Addr × Obj)} {σ : L2.St} {H : Hp} {s : Shared} {side : Sd} {xs : List V} {u : Value} (I : Inv X pins σ H s) (h : side.has X.K H xs) (r : RelV side.v u) :
    ∃ HH : Heap → Prop, Begins u (sdObj u side) HH ∧ HH s.heap ∧ (∀ c, s.heap.objs.size ≤ c → side.off c) ∧ ∀ it (h' : Heap), h'.get? it = some (sdObj u side) → side.at_ it 0 h' := by
  cases side with
  | txt x =>
    obtain ⟨t, rfl⟩ := r
    exact ⟨_, begins_text x t, trivial, fun _ _ => trivial, fun it h' e => ⟨t, _, e, rfl, rfl⟩⟩
  | ls a =>
    cases r
    obtain ⟨its, rv, p, _⟩ := I.list h
    have lt : (a : Nat) < s.heap.objs.size := p.lt
    exact ⟨_, begins_list a its.toArray, p.isList, fun c hc => show (a : Nat) ≠ c from Nat.ne_of_lt (Nat.lt_of_lt_of_le lt hc), fun it h' e => ⟨_, e, rfl, rfl⟩⟩
  | tp a =>
    cases r
    obtain ⟨its, rv, p, _⟩ := I.tuple h
    have p : s.heap.IsTuple a its.toArray := p
    obtain ⟨o, ho, _⟩ := id p
    have lt : (a : Nat) < s.heap.objs.size := Heap.lt_size ho
    exact ⟨_, begins_tuple a its.toArray, p, fun c hc => show (a : Nat) ≠ c from Nat.ne_of_lt (Nat.lt_of_lt_of_le lt hc), fun it h' e => ⟨_, e, rfl, rfl⟩⟩
def iZipG (K : PySem.W.Frag) (ta : TA) : TI := fun σ H R => ta σ H fun vs H1 => ∃ A B : Sd, vs = [A.v, B.v] ∧ (∃ xs, A.has K H1 xs) ∧ (∃ ys, B.has K H1 ys) ∧ R (ItzG K A B) H1
theorem pi_zipG {X : Cx} {e e2 : Expr} {ta : TA} {p pos tpos : Pos} {elts : List Expr} {kk : Nat} (hg : Gl X "zip") (hm : X.mg "zip" = none) (ha : PA X [e, e2] ta)
    (hs : starEach [e, e2] X.env = (false, eval e X.env) :: starEach [e2] X.env) (hpl : (PySem.backTo pos (starEach [e2] X.env)).any (·.1) = false) :
    PI X (.Tuple elts kk tpos) (.Call (.Name "zip" p) [e, e2] [] pos) (iZipG X.K ta) := by
  refine ⟨fun pins s σ H R I h => ?_⟩
  refine Call_ (ld_blt I hg hm PyProof.Rows.boot_zip (PyProof.Rows.callWith_type1 (thn (ha.run pos pins s σ H _ I h) fun us s1 ⟨vs, H1, I1, r1, q1⟩ => ?_) hs hpl))
  obtain ⟨A, B, ex, ⟨xs, hx⟩, ⟨ys, hy⟩, q⟩ := q1
  subst ex
  cases r1 with
  | cons r rr =>
    cases rr with
    | cons r' rr =>
      cases rr
      obtain ⟨HA, bA, gA, oA, aA⟩ := Sd.begins I1 hx r
      obtain ⟨HB, bB, gB, oB, aB⟩ := Sd.begins I1 hy r'
      refine zip_begins2 bA bB gA gB fun h' hz hTI hTO h1 h2 hsz hk => wpAny_pyIter_zip hz ?_
      have I2 : Inv X pins σ H1 { s1 with heap := h' } := I1.kept (t' := s1.toks) hk
      refine ⟨s1.heap.objs.size + 4, [s1.heap.objs.size + 4, s1.heap.objs.size + 2, s1.heap.objs.size + 3, s1.heap.objs.size, s1.heap.objs.size + 1], _, _, H1, rfl, I2, turn_zipG s1.heap.objs.size oA oB, ⟨hz, hTI, ⟨_, _, hTO⟩, aA _ _ h1, aB _ _ h2⟩, fun c hcm => ?_, q⟩
      have e' : c = s1.heap.objs.size + 4 ∨ c = s1.heap.objs.size + 2 ∨ c = s1.heap.objs.size + 3 ∨ c = s1.heap.objs.size ∨ c = s1.heap.objs.size + 1 := by simpa using hcm
      have hle : s1.heap.objs.size ≤ c := by
        rcases e' with z | z | z | z | z
        · rw [z]; exact Nat.le_add_right _ _
        · rw [z]; exact Nat.le_add_right _ _
        · rw [z]; exact Nat.le_add_right _ _
        · rw [z]; exact Nat.le_refl _
        · rw [z]; exact Nat.le_add_right _ _
      exact I1.fpOk hle (I1.hok.fresh hle)

/-! ### its reading -/
section
variable {T : Tab} {W : WX} {X : Cx} {S H : Hp} {δ : DSt} {σ : L2.St}
theorem sd_of {v : V} {d : D} {ds : List D} (hs : Sub S H) (r : Rep T S v d) (e : seqD d = some ds) : ∃ (A : Sd) (vs : List V), v = A.v ∧ A.has T.K S vs ∧ RepL T S vs ds ∧ ∀ S', Sub S S' → A.has T.K S' vs := by
  cases d <;> first | (simp only [seqD] at e; cases e; done) | skip
  · rename_i s
    simp only [seqD] at e
    cases e
    cases r
    refine ⟨.txt (sx s), s.map fun c => V.str ⟨#[c]⟩, rfl, by simp [Sd.has, sx], ?_, fun _ _ => by simp [Sd.has, sx]⟩
    induction s with
    | nil => exact .nil
    | cons c s ih => exact .cons (.str [c]) ih
  · simp only [seqD] at e
    cases e
    cases r with
    | tup h1 h2 => exact ⟨.tp _, _, rfl, h1, h2, fun S' q => sqT_sub q h1⟩
  · simp only [seqD] at e
    cases e
    cases r with
    | lst h1 h2 => exact ⟨.ls _, _, rfl, SqL.of h1, h2, fun S' q => SqL.of (q _ _ h1)⟩
theorem walkD_zip {A B : Sd} {vs ws : List V} {ds es : List D} (h1 : ∀ S', Sub S S' → A.has T.K S' vs) (h2 : ∀ S', Sub S S' → B.has T.K S' ws) (r1 : RepL T S vs ds) (r2 : RepL T S ws es) : WalkD T S H δ σ (zipD ds es) (ItzG T.K A B) := by
  have hl : (zipD ds es).length = min vs.length ws.length := by simp [zipD, r1.length, r2.length]
  refine ⟨fun S' H' δ' σ' i G s hi => ?_, fun S' H' δ' σ' G s => ⟨Nat.le_refl _, vs, ws, h1 _ (s.ext.trans G.sub), h2 _ (s.ext.trans G.sub), hl⟩, fun S' H' δ' σ' i x H2 G s hi y => ?_⟩
  · rw [hl] at hi
    exact ⟨vs, ws, vs[i], ws[i], h1 _ (s.ext.trans G.sub), h2 _ (s.ext.trans G.sub), List.getElem?_eq_getElem (by omega), List.getElem?_eq_getElem (by omega)⟩
  · obtain ⟨t, x, y, rfl, ht, rfl, ex, ey⟩ := y
    have ex := ex vs (h1 _ (s.ext.trans G.sub))
    have ey := ey ws (h2 _ (s.ext.trans G.sub))
    obtain ⟨d, e1, e2⟩ := r1.getV ex
    obtain ⟨e, e3, e4⟩ := r2.getV ey
    refine ⟨_, .tup [d, e], .laid G.sub ht, ?_, .tup (SqT.of upd_same) ?_⟩
    · have hz : (ds.zip es)[i]? = some (d, e) := List.getElem?_zip_eq_some.mpr ⟨e1, e3⟩
      show ((ds.zip es).map fun p => D.tup [p.1, p.2])[i]? = _
      rw [List.getElem?_map, hz]
      rfl
    · exact RepL.sub (s.ext.trans (sub_upd (.inl (snone G.sub ht)))) (.cons e2 (.cons e4 .nil))
theorem sI_zip {e e2 : Expr} {m m2 : E} {p pos tpos : Pos} {elts : List Expr} {kk : Nat} (hK : X.K = T.K) (hg : Gl X "zip") (hm : X.mg "zip" = none) (h1 : PE X e (rdE T W m)) (h2 : PE X e2 (rdE T W m2)) (n1 : notStar e = true) (n2 : notStar e2 = true) :
    PI X (.Tuple elts kk tpos) (.Call (.Name "zip" p) [e, e2] [] pos) (rdSrc T W (.zip m m2)) := by
  refine PI.mono (pi_zipG hg hm (pa_cons h1 (pa_cons h2 pa_nil (star1 n2)) (star1 n1)) (star1 n1) (by rw [star1 n2]; rfl)) fun σ H R ⟨S, δ, G, h⟩ => ⟨S, δ, G, ?_⟩
  simp only [denSrc] at h
  refine h.bindS.mono fun r δ1 S1 H1 G1 s1 h1 v hr => ?_
  obtain ⟨x, S2, e1, G2, s2, a, k⟩ := frz_ok G1 s1 hr h1.bindS
  refine ⟨S2, δ1, G2, ?_⟩
  have k := k.back s2
  refine k.bindS.mono fun r' δ3 S3 H3 G3 s3 h3 w hr' => ?_
  obtain ⟨y, S4, e2', G4, s4, a', k'⟩ := frz_ok G3 s3 hr' h3.bindS
  have k' := k'.back s4
  cases x with
  | pk i =>
    cases r with
    | fz d => cases e1
    | fr d => simp only [frz] at e1; split at e1 <;> cases e1
  | val d =>
  cases y with
  | pk i =>
    cases r' with
    | fz d => cases e2'
    | fr d => simp only [frz] at e2'; split at e2' <;> cases e2'
  | val d' =>
  simp only [res, Option.bind_some] at k'
  cases q1 : seqD d with
  | none => rw [q1] at k'; exact k'.elim
  | some ds =>
  cases q2 : seqD d' with
  | none => rw [q1, q2] at k'; exact k'.elim
  | some es =>
  rw [q1, q2] at k'
  have a : Rep T S2 v d := a
  have a' : Rep T S4 w d' := a'
  obtain ⟨A, vs, rfl, x1, x2, x3⟩ := sd_of G4.sub (a.sub s4.ext) q1
  obtain ⟨B, ws, rfl, y1, y2, y3⟩ := sd_of G4.sub a' q2
  refine ⟨A, B, rfl, ⟨vs, ?_⟩, ⟨ws, ?_⟩, ?_⟩
  · rw [hK]; exact x3 _ G4.sub
  · rw [hK]; exact y3 _ G4.sub
  · rw [hK]
    exact OutP.here G4 k' _ (walkD_zip x3 y3 x2 y2)
end
end Z

set_option Elab.async false
set_option linter.all false
set_option maxHeartbeats 1000000
/-! ZStm2: unpacking, o[k] = v. -/
namespace Z
open PySem L2
section
variable {T : Tab} {W : WX} {X : Cx} {S H : Hp} {δ : DSt} {σ : L2.St}
def notComp : Expr → Bool
  | .ListComp _ _ _ _ => false
  | .SetComp _ _ _ _ => false
  | .DictComp _ _ _ _ _ => false
  | _ => true
theorem swap_of {e : Expr} {t : Option Expr} {l : Nat} {env : Env} (h : notComp e = true) : swapsWith e t l env = pure false := by
  unfold swapsWith
  cases e <;> first | rfl | cases h
theorem sole_of {e t : Expr} {l : Nat} {env : Env} (h : notComp e = true) : swapsWithSole [t] e l env = pure false := by
  unfold swapsWithSole
  exact swap_of h
theorem fold_of {e : Expr} {env : Env} (h : notSet e = true) : ∀ x, foldedSetIterable e env x = pure x := by
  intro x
  cases e <;> first | rfl | cases h
def notTupE : Expr → Bool
  | .Tuple _ _ _ => false
  | _ => true
theorem stores_of {tg e : Expr} {env : Env} (h : notTupE e = true) : swappedStores [tg] e env = pure none := by
  unfold swappedStores
  cases tg <;> cases e <;> first | rfl | cases h
theorem stores_sub {o i e : Expr} {pos : Pos} {env : Env} : swappedStores [.Subscript o i pos] e env = pure none := by
  unfold swappedStores
  cases e <;> rfl
def chkTg (N : List Str) (fnv : Str → Bool) : List Expr → List Nat → Bool
  | [], [] => true
  | .Name x _ :: es, i :: is => decide (N[i]? = some x) && fnv x && chkTg N fnv es is
  | _, _ => false
theorem chkTg_ok {fnv : Str → Bool} (hf : ∀ x, fnv x = true → Loc X.env.scope x ∧ (X.fn x = true ∨ X.env.scope.names.lookup x = some .local)) : ∀ {es : List Expr} {is : List Nat}, chkTg X.N fnv es is = true →
    Paired (fun (e : Expr) (i : Nat) => ∃ x p, e = .Name x p ∧ X.N[i]? = some x ∧ Loc X.env.scope x ∧ (X.fn x = true ∨ X.env.scope.names.lookup x = some .local)) es is
  | [], [], _ => .nil
  | [], _ :: _, h => by simp [chkTg] at h
  | e :: es, is, h => by
    cases e with
    | Name x p =>
      cases is with
      | nil => simp [chkTg] at h
      | cons i is =>
        simp only [chkTg, Bool.and_eq_true, decide_eq_true_eq] at h
        exact .cons ⟨x, p, rfl, h.1.1, hf x h.1.2⟩ (chkTg_ok hf h.2)
    | _ => cases is <;> simp [chkTg] at h
theorem chkTg_len {N : List Str} {fnv : Str → Bool} {env : Env} : ∀ {es : List Expr} {is : List Nat}, chkTg N fnv es is = true → (assignEach es env).length = is.length ∧ (assignEach es env).findIdx? (·.1) = none
  | [], [], _ => ⟨rfl, rfl⟩
  | [], _ :: _, h => by simp [chkTg] at h
  | e :: es, is, h => by
    cases e with
    | Name x p =>
      cases is with
      | nil => simp [chkTg] at h
      | cons i is =>
        simp only [chkTg, Bool.and_eq_true, decide_eq_true_eq] at h
        obtain ⟨h1, h2⟩ := chkTg_len (env := env) h.2
        constructor
        · show (assignEach es env).length + 1 = is.length + 1
          rw [h1]
        · show List.findIdx? (·.1) ((false, _) :: assignEach es env) = none
          rw [List.findIdx?_cons]
          simp [h2]
    | _ => cases is <;> simp [chkTg] at h
theorem pg_many {es : List Expr} {is : List Nat} {k : Nat} {pos : Pos} {fnv : Str → Bool} (hc : X.calm = true) (hN : X.N.Nodup) (hf : ∀ x, fnv x = true → Loc X.env.scope x ∧ (X.fn x = true ∨ X.env.scope.names.lookup x = some .local))
    (h : chkTg X.N fnv es is = true) : PG X (.Tuple es k pos) (gTup X.K is.length (gNames is)) :=
  pg_tup hc (pgs_names hN (chkTg_ok hf h)) (chkTg_len h).1 (chkTg_len h).2
theorem sS_unp {es : List Expr} {k : Nat} {p pos : Pos} {e : Expr} {is : List Nat} {m : E} {g : TG} (hg : PG X (.Tuple es k p) g) (hgo : TgOk T is g) (hl : is.length ≠ 1) (he : PE X e (rdE T W m)) (h1 : notComp e = true) (h2 : notTupE e = true) :
    PS X (.Assign [.Tuple es k p] e pos) (rdS T W (.unp is m)) := by
  refine PS.mono (ps_asg he hg (sole_of h1) (stores_of h2) rfl) fun D σ H ⟨S, δ, G, h⟩ => ⟨S, δ, G, ?_⟩
  simp only [denS] at h
  refine h.exp.mono fun r δ1 S1 H1 G1 s1 h1 v hr => ?_
  cases r with
  | fr d => exact h1.elim
  | fz d =>
    simp only [] at h1
    cases q : bindT is d δ1 with
    | none => rw [q] at h1; exact h1.elim
    | some δ2 =>
      rw [q] at h1
      exact hgo S1 H1 δ1 σ d v δ2 _ G1 hr q fun σ' G' s' _ => h1 S1 H1 σ' G' (s1.trans s')
theorem sS_seti {i : Nat} {x : Str} {e k : Expr} {m mk : E} {np p pos : Pos} (hN : X.N[i]? = some x) (hv : Vis X.env.scope x) (hd : (x == ("__debug__" : Str)) = false) (hcd : (x == ("__classdict__" : Str)) = false)
    (he : PE X e (rdE T W m)) (hk : PE X k (rdE T W mk)) (h1 : notComp e = true) (h2 : notSlice k = true) : PS X (.Assign [.Subscript (.Name x np) k p] e pos) (rdS T W (.seti i mk m)) := by
  refine PS.mono (ps_asg he (pg_sub (pe_var hN hv hd hcd) hk set_list (fun v => by cases k <;> first | rfl | cases h2)) (sole_of h1) stores_sub rfl) fun D σ H ⟨S, δ, G, h⟩ => ⟨S, δ, G, ?_⟩
  simp only [denS] at h
  refine h.exp.mono fun r δ1 S1 H1 G1 s1 h1 v hr => ?_
  obtain ⟨y, S2, e2, G2, s2, ay, k1⟩ := frz_ok G1 s1 hr h1.exp
  have k1 := OutSP.back s2 k1
  cases q : slotD δ1 i with
  | none => simp only [q] at k1; exact k1.elim
  | some pp =>
    obtain ⟨m0, d0⟩ := pp
    cases d0 <;> first | (simp only [q] at k1; exact k1.elim) | skip
    simp only [q] at k1
    obtain ⟨a, vs0, f1, _, _, _⟩ := own_lst G2 q
    refine ⟨_, f1, S2, δ1, G2, ?_⟩
    refine k1.exp.mono fun r' δ3 S3 H3 G3 s3 h3 w hr' => ?_
    cases r' with
    | fr d => cases y <;> exact h3.elim
    | fz d =>
    cases y with
    | pk j => exact h3.elim
    | val dv =>
    cases d <;> first | exact h3.elim | skip
    rename_i j
    cases q3 : slotD δ3 i with
    | none => simp only [q3] at h3; exact h3.elim
    | some p3 =>
      obtain ⟨m1, d1⟩ := p3
      cases d1 <;> first | (simp only [q3] at h3; exact h3.elim) | skip
      rename_i ds
      simp only [q3] at h3
      split at h3
      · rename_i hm
        obtain ⟨a1, vs, g1, g2, g3, g4⟩ := own_lst G3 q3
        rw [f1] at g1
        cases g1
        have hS : S3 a = none := g4 (by rcases hm with z | z <;> (rw [z]; decide))
        cases q4 : ixD ds.length j with
        | none => rw [q4] at h3; exact h3.elim
        | some n =>
          rw [q4] at h3
          cases hr'
          obtain ⟨G4, s4⟩ := put_lst G3 q3 hm f1 hS g2 (RepL.set (Rep.sub s3.ext ay) n g3)
          refine ⟨a, vs, j, n, rfl, rfl, g2, ?_, ?_⟩
          · rw [g3.length, ← ixD_ixN]; exact q4
          · exact h3 S3 _ σ G4 (s3.trans s4)
      · exact h3.elim
end
end Z

set_option Elab.async false
set_option linter.all false
set_option maxHeartbeats 1000000
/-! ZStar: a target with a star. -/
namespace Z
open PySem L2 PySem.W PyProof.Rows
theorem vals_take : ∀ {xs : List V} {us : List Value} (n : Nat), Vals xs us → Vals (xs.take n) (us.take n)
  | _, _, 0, _ => .nil
  | _, _, _ + 1, .nil => .nil
  | _, _, n + 1, .cons a r => .cons a (vals_take n r)
theorem vals_drop : ∀ {xs : List V} {us : List Value} (n : Nat), Vals xs us → Vals (xs.drop n) (us.drop n)
  | _, _, 0, r => r
  | _, _, _ + 1, .nil => .nil
  | _, _, n + 1, .cons _ r => vals_drop n r
section
variable {X : Cx}
def gStar (K : PySem.W.Frag) (n i : Nat) (t : TGs) : TG := fun v σ H Q => ∃ a xs, v = .ref a ∧ SqL K H a xs ∧ n ≤ xs.length + 1 ∧ xs.length ≤ 16384 ∧
  ∀ D, H D = none → t (xs.take i ++ (.ref D :: (xs.drop i).drop (xs.length + 1 - n))) σ (upd H D (.lst ((xs.drop i).take (xs.length + 1 - n)))) Q
theorem pg_star {es : List Expr} {k : Nat} {t : TGs} {n i : Nat} {pos : Pos} (hc : X.calm = true) (h : PGs X es t) (hn : (assignEach es X.env).length = n) (hst : (assignEach es X.env).findIdx? (·.1) = some i) (hi : i < n) : PG X (.Tuple es k pos) (gStar X.K n i t) := by
  refine ⟨fun pins s σ H v u Q I r hw => ?_⟩
  obtain ⟨a, xs, e1, hq, hlen, hz, hw⟩ := hw
  subst e1
  cases r
  have hh := I.ok.hd hc
  obtain ⟨its, rv, hpl, _⟩ := I.list hq
  have hll := rv.length
  have hl : s.heap.IsList a its.toArray := hpl.isList
  rw [assign_Tuple]
  refine wpAny_bind (wpAny_standAt ?_)
  unfold unpack
  rw [hn, hst]
  refine wpAny_bind (wpAny_holding ?_)
  have hsz : its.toArray.size = its.length := by simp
  have hlt : a ≠ s.heap.objs.size := by obtain ⟨o, ho, _⟩ := hl; exact Nat.ne_of_lt (Heap.lt_size ho)
  unfold unpackItems
  refine wpAny_bind ?_
  unfold notIterableAtAll
  refine wpAny_bind (wpAny_specialOf hl.typeIs slot_list_iter.lookup ?_)
  refine wpAny_pure ?_
  simp only [Bool.false_eq_true, if_false]
  refine wpAny_bind (wpAny_holding (wpAny_pyIter_list hl ?_))
  refine wpAny_bind (wpAny_holding (kun_draw hlt i 0 _ _ ⟨_, Heap.get?_push_size _ rfl, rfl, rfl⟩ (hl.push _) (by omega) fun h₁ hit₁ hs₁ => ?_))
  have hl₁ : h₁.IsList a its.toArray := (hl.push _).extBut hs₁.extBut hlt
  rw [Nat.zero_add] at hit₁
  have hit₁' := hit₁
  obtain ⟨oi, hoi, _⟩ := hit₁'
  have hl₁' := hl₁
  obtain ⟨ol, hol, _⟩ := hl₁'
  rw [List.drop_zero]
  have hfl : (its.toArray.toList.take i).length = i := by rw [List.length_take, Array.length_toList]; omega
  rw [if_neg (show ¬ ((its.toArray.toList.take i).length < i) by rw [hfl]; omega)]
  refine wpAny_bind (wpAny_holding (kun_collect (s := { s with heap := h₁ }) (T := "list_iterator") (.inr (.inr (.inl rfl))) (Walks.list (A := X.A.in1) hh s.heap.objs.size a hlt its.toArray) (fun j u st => st.1.typeIs) (k := i) (by omega) ⟨hit₁, hl₁⟩ (Heap.lt_size hoi) (Heap.lt_size hol) (fun h₂ tk hk => ?_) (by rw [sizeLine_eq]; omega)))
  have hrl : (its.toArray.toList.drop i).length = its.length - i := by rw [List.length_drop]
  have hmid : (its.toArray.toList.drop i).length - (n - 1 - i) = xs.length + 1 - n := by rw [hrl]; omega
  show wpAny _ _ (if (its.toArray.toList.drop i).length < n - 1 - i then _ else _) _ _ _
  rw [if_neg (by rw [hrl]; omega)]
  show wpAny _ _ (newList ((its.toArray.toList.drop i).take ((its.toArray.toList.drop i).length - (n - 1 - i))) >>= fun d => pure (its.toArray.toList.take i ++ [d] ++ (its.toArray.toList.drop i).drop ((its.toArray.toList.drop i).length - (n - 1 - i)))) _ _ _
  rw [hmid]
  have he : ∀ b o, s.heap.get? b = some o → h₂.get? b = some o := fun b o e => hk b o (Nat.ne_of_lt (Heap.lt_size e)) (hs₁.extBut b o (Nat.ne_of_lt (Heap.lt_size e)) (Heap.get?_push_of_some _ e))
  have I1 : Inv X pins σ H { s with heap := h₂, toks := tk } := I.kept he
  refine wpAny_bind (wpAny_newList ?_ (by rw [List.length_take, hrl, sizeLine_eq]; omega))
  refine wpAny_pure ?_
  have hp := I1.hok.fresh (Nat.le_refl _)
  have rm : Vals ((xs.drop i).take (xs.length + 1 - n)) ((its.drop i).take (xs.length + 1 - n)) := vals_take _ (vals_drop _ rv)
  have I2 : Inv X pins σ (upd H h₂.objs.size (.lst ((xs.drop i).take (xs.length + 1 - n)))) { s with heap := h₂.push { cls := .type "list", data := .seq ((its.drop i).take (xs.length + 1 - n)).toArray }, toks := tk } :=
    I1.laid (fun b u q => Heap.get?_push_of_some _ q) (Nat.le_refl _) ⟨by rw [List.length_take, List.length_drop, sizeLine_eq]; omega, (its.drop i).take (xs.length + 1 - n), _, rm, Heap.get?_push_size _ rfl⟩
  have hw := hw _ hp
  refine h.run pins _ σ _ _ _ Q I2 ?_ hw
  rw [List.append_assoc]
  exact (vals_take i rv).append (.cons rfl (vals_drop _ (vals_drop _ rv)))
end
section
variable {T : Tab} {W : WX} {X : Cx} {S H : Hp} {δ : DSt} {σ : L2.St}
theorem pgs_cons' {e : Expr} {p : Pos} {es : List Expr} {t : TG} {u : TGs} (h1 : PG X e t) (h2 : PGs X es u) : PGs X (.Starred e p :: es) (gCons t u) := by
  refine ⟨fun pins s σ H vs us Q I r h => ?_⟩
  obtain ⟨v, vr, e1, h⟩ := h
  subst e1
  cases r with
  | cons r rr =>
    show wpAny _ _ (assignInOrder (assign e X.env :: (assignEach es X.env).map (·.2)) _) _ _ _
    refine assignInOrder_cons (thn (h1.run pins s σ H _ _ _ I r h) fun _ s1 ⟨σ1, H1, I1, q1⟩ => ?_)
    exact h2.run pins s1 σ1 H1 _ _ Q I1 rr q1
def chkTgS (N : List Str) (fnv : Str → Bool) : List Expr → List Nat → Nat → Bool
  | .Starred (.Name x _) _ :: es, i :: is, 0 => decide (N[i]? = some x) && fnv x && chkTg N fnv es is
  | .Name x _ :: es, i :: is, k + 1 => decide (N[i]? = some x) && fnv x && chkTgS N fnv es is k
  | _, _, _ => false
theorem chkTgS_ok {fnv : Str → Bool} (hN : X.N.Nodup) (hf : ∀ x, fnv x = true → Loc X.env.scope x ∧ (X.fn x = true ∨ X.env.scope.names.lookup x = some .local)) : ∀ {es : List Expr} {is : List Nat} {k : Nat}, chkTgS X.N fnv es is k = true →
    PGs X es (gNames is) ∧ (assignEach es X.env).length = is.length ∧ (assignEach es X.env).findIdx? (·.1) = some k ∧ k < is.length
  | [], _, _, h => by simp [chkTgS] at h
  | e :: es, [], k, h => by cases e <;> simp [chkTgS] at h
  | e :: es, i :: is, k, h => by
    cases e <;> first | (simp [chkTgS] at h; done) | skip
    · rename_i e p
      cases e <;> first | (simp [chkTgS] at h; done) | skip
      cases k with
      | succ k => simp [chkTgS] at h
      | zero =>
        simp only [chkTgS, Bool.and_eq_true, decide_eq_true_eq] at h
        obtain ⟨h1, h2⟩ := chkTg_len (env := X.env) h.2
        refine ⟨pgs_cons' (pg_name hN h.1.1 (hf _ h.1.2).1 (hf _ h.1.2).2) (pgs_names hN (chkTg_ok hf h.2)), ?_, ?_, ?_⟩
        · show (assignEach es X.env).length + 1 = is.length + 1
          rw [h1]
        · show List.findIdx? (·.1) ((true, _) :: assignEach es X.env) = some 0
          rw [List.findIdx?_cons]
          simp
        · simp
    · cases k with
      | zero => simp [chkTgS] at h
      | succ k =>
        simp only [chkTgS, Bool.and_eq_true, decide_eq_true_eq] at h
        obtain ⟨h0, h1, h2, h3⟩ := chkTgS_ok hN hf h.2
        refine ⟨pgs_cons (pg_name hN h.1.1 (hf _ h.1.2).1 (hf _ h.1.2).2) h0, ?_, ?_, ?_⟩
        · show (assignEach es X.env).length + 1 = is.length + 1
          rw [h1]
        · show List.findIdx? (·.1) ((false, _) :: assignEach es X.env) = some (k + 1)
          rw [List.findIdx?_cons]
          simp [h2]
        · simp; exact h3
theorem starD_len {k n : Nat} {ds : List D} (h1 : n ≤ ds.length + 1) (h2 : k < n) : (starD k n ds).length = n := by
  unfold starD
  simp only [List.length_append, List.length_take, List.length_cons, List.length_drop]
  omega
theorem sS_unps {es : List Expr} {kk : Nat} {p pos : Pos} {e : Expr} {is : List Nat} {k : Nat} {m : E} (hg : PG X (.Tuple es kk p) (gStar T.K is.length k (gNames is))) (he : PE X e (rdE T W m)) (h1 : notComp e = true) (h2 : notTupE e = true) :
    PS X (.Assign [.Tuple es kk p] e pos) (rdS T W (.unps is k m)) := by
  refine PS.mono (ps_asg he hg (sole_of h1) (stores_of h2) rfl) fun D σ H ⟨S, δ, G, h⟩ => ⟨S, δ, G, ?_⟩
  simp only [denS] at h
  refine h.exp.mono fun r δ1 S1 H1 G1 s1 h1 v hr => ?_
  obtain ⟨y, S2, e2, G2, s2, ay, k1⟩ := frz_ok G1 s1 hr h1.exp
  cases y with
  | pk j => cases r <;> (simp only [frz] at e2; first | cases e2 | (split at e2 <;> cases e2))
  | val d =>
    simp only [res] at k1
    cases d <;> first | exact k1.elim | skip
    rename_i ds
    simp only [] at k1
    split at k1
    · rename_i hc
      cases ay with
      | @lst a vs _ h1 h2 =>
        have hl := h2.length
        refine ⟨a, vs, rfl, SqL.of (G2.sub _ _ h1), by omega, by omega, fun D hD => ?_⟩
        have gr := Grow.laid (o := .lst ((vs.drop k).take (vs.length + 1 - is.length))) G2.sub hD
        have G3 := G2.grow gr
        have rl : RepL T (upd S2 D (.lst ((vs.drop k).take (vs.length + 1 - is.length)))) (vs.take k ++ (.ref D :: (vs.drop k).drop (vs.length + 1 - is.length))) (starD k is.length ds) := by
          have r2 := RepL.sub gr.ext h2
          unfold starD
          rw [← hl]
          exact (r2.take k).append (.cons (.lst upd_same ((r2.drop k).take _)) ((r2.drop k).drop _))
        refine tg_names is (starD k is.length ds) _ _ _ _ _ _ G3 rl (starD_len hc.1 hc.2.1) fun σ' G' s' _ => ?_
        exact k1 _ _ σ' G' ((s2.trans (gr.stp δ1 σ)).trans s')
    · exact k1.elim
end
end Z

set_option Elab.async false
set_option linter.all false
set_option maxHeartbeats 1000000
/-! ZFs: f-strings, str(..), a written dict. -/
namespace Z
open PySem L2
section
variable {T : Tab} {W : WX} {X : Cx} {S H : Hp} {δ : DSt} {σ : L2.St}
theorem p1_fmt : P1Ok T (k1 .fmt) fun v H Q => (∃ y : Str, v = .str y ∧ y.length ≤ sizeLine ∧ Q (.str y) H) ∨ ∃ i : Int, v = .int i ∧ i.natAbs.log2 < 1920 ∧ Q (.str (toString i)) H := by
  intro S H v d c Q hs hr hc k
  cases d <;> first | (simp only [k1] at hc; cases hc; done) | skip
  · simp only [k1] at hc
    split at hc
    · cases hc
      rename_i hz
      obtain rfl := hr.int
      exact .inr ⟨_, rfl, hz, fin_fz hs k (rep_str _)⟩
    · cases hc
  · simp only [k1] at hc
    split at hc
    · cases hc
      rename_i hz
      obtain rfl := hr.str
      exact .inl ⟨_, rfl, by rw [sx_len]; exact sizeL_line hz, fin_fz hs k (.str _)⟩
    · cases hc
theorem p1_str : P1Ok T (k1 .str) fun v H Q => (∃ i : Int, [v] = [.int i] ∧ i.natAbs.log2 < 1920 ∧ Q (.str (toString i)) H) ∨ ∃ a : Str, [v] = [.str a] ∧ Q (.str a) H := by
  intro S H v d c Q hs hr hc k
  cases d <;> first | (simp only [k1] at hc; cases hc; done) | skip
  · simp only [k1] at hc
    split at hc
    · cases hc
      rename_i hz
      obtain rfl := hr.int
      exact .inl ⟨_, rfl, hz, fin_fz hs k (rep_str _)⟩
    · cases hc
  · simp only [k1] at hc
    cases hc
    obtain rfl := hr.str
    exact .inr ⟨_, rfl, fin_fz hs k (.str _)⟩
def tsOf (T : Tab) (W : WX) : Es → List TE
  | .nil => []
  | .cons e es => rdE T W e :: tsOf T W es
theorem tJs_ok : ∀ (ms : Es) (S H : Hp) (δ δ' : DSt) (acc : List Nat) (ds : List D) (ys : List (List Nat)) (K : Str → Hp → Prop), Good T S H δ σ → denEs ms δ = .ok ds δ' → strsD ds = some ys → (acc ++ ys.flatten).length ≤ sizeL →
    (∀ S' H', Good T S' H' δ' σ → Stp S H δ σ S' H' δ' σ → K (sx (acc ++ ys.flatten)) H') → tJs (tsOf T W ms) (sx acc) σ H K
  | .nil, S, H, δ, δ', acc, ds, ys, K, G, e, q, hz, k => by
    simp only [denEs] at e
    cases e
    simp only [strsD] at q
    cases q
    simp only [List.flatten_nil, List.append_nil] at k
    exact k S H G (.refl ..)
  | .cons m ms, S, H, δ, δ', acc, ds, ys, K, G, e, q, hz, k => by
    simp only [denEs] at e
    cases e1 : den m δ with
    | bad => rw [e1] at e; cases e
    | ex x δ1 => rw [e1] at e; cases e
    | ok r δ1 =>
      rw [e1] at e
      simp only [Out.bind] at e
      cases e2 : frz r δ1 with
      | bad => rw [e2] at e; cases e
      | ex x δ1 => rw [e2] at e; cases e
      | ok x δ2 =>
        rw [e2] at e
        simp only [Out.bind] at e
        cases x with
        | pk i => cases e
        | val d =>
          simp only [Out.bind] at e
          cases e3 : denEs ms δ2 with
          | bad => rw [e3] at e; cases e
          | ex x δ1 => rw [e3] at e; cases e
          | ok ds' δ3 =>
            rw [e3] at e
            cases e
            cases d <;> first | (simp only [strsD] at q; cases q; done) | skip
            rename_i s
            simp only [strsD] at q
            cases q2 : strsD ds' with
            | none => rw [q2] at q; cases q
            | some ys' =>
              rw [q2] at q
              cases q
              cases r with
              | fr d' =>
                simp only [frz] at e2
                split at e2
                · cases e2
                  rename_i hg
                  cases hg
                · cases e2
              | fz d' =>
                simp only [frz] at e2
                cases e2
                refine ⟨S, δ, G, ?_⟩
                rw [e1]
                intro S1 H1 G1 s1 v hr
                have hr : Rep T S1 v (.str s) := hr
                cases hr
                simp only [List.flatten_cons] at hz k
                rw [← List.append_assoc] at hz k
                refine ⟨sx s, rfl, ?_, ?_⟩
                · rw [sx_append, sx_len]
                  refine sizeL_line (Nat.le_trans ?_ hz)
                  simp
                · rw [sx_append]
                  exact tJs_ok ms S1 H1 _ _ (acc ++ s) ds' ys' K G1 e3 q2 hz fun S' H' G' s' => k S' H' G' (s1.trans s')
theorem sE_fs {e1 e2 : Expr} {es : List Expr} {ms : Es} {pos : Pos} (h : PJ X (e1 :: e2 :: es) (tsOf T W ms)) : PE X (.JoinedStr (e1 :: e2 :: es) pos) (rdE T W (.fs ms)) := by
  refine PE.mono (pe_joined h) fun σ H Q ⟨S, δ, G, h⟩ => ?_
  simp only [den] at h
  cases q : denEs ms δ with
  | bad => rw [q] at h; exact h.elim
  | ex x δ1 => rw [q] at h; exact h.elim
  | ok ds δ' =>
    rw [q] at h
    simp only [] at h
    cases q2 : strsD ds with
    | none => rw [q2] at h; exact h.elim
    | some ys =>
      rw [q2] at h
      simp only [] at h
      split at h
      · rename_i hz
        exact tJs_ok ms S H δ δ' [] ds ys _ G q q2 hz fun S' H' G' s' => h S' H' G' s' _ (.str _)
      · exact h.elim
theorem sE_dspc {k : List Nat} {i : Int} {z : Str} {n1 n2 : Nat} {p1 p2 pos : Pos} (hz : z = sx k) : PE X (.Dict [some (.Constant (.str z) n1 p1)] [.Constant (.int i) n2 p2] pos) (rdE T W (.dspc k i)) := by
  subst hz
  refine PE.mono (pe_disp (pps_cons pe_str pe_int pps_nil) rfl rfl (fun z => by cases z) (show 1 ≤ 15 by decide)) fun σ H Q ⟨S, δ, G, h⟩ => ?_
  simp only [den] at h
  intro p hp
  refine ⟨upd_same, [(.inr (sx k), .int i)], rfl, show 1 ≤ 15 by decide, ?_⟩
  rw [upd_upd]
  have hs : S p = none := snone G.sub hp
  have gr : Grow S H S (upd H p (.dK (mergeK [] [(.inr (sx k), V.int i)]))) := .mine G.sub hp
  refine h _ _ (G.grow gr) (gr.stp δ σ) _ ⟨p, rfl, ?_, fun z => ?_, .inl hp⟩
  · exact .dK (ks := [(.inr (sx k), V.int i)]) (ds := [.int i]) hs upd_same (.cons (.int i) .nil)
  · obtain ⟨d, o⟩ := G.owned z
    obtain ⟨_, u, hu, _⟩ := o.there
    rw [hp] at hu
    cases hu
end
end Z

set_option Elab.async false
set_option linter.all false
set_option maxHeartbeats 1000000
/-! ZKw: arguments by name, defaults. -/
namespace Z
open PySem L2
/-- a def called, its last arguments by name -/
def FnV (P : Program) (w : World) (K : PySem.W.Frag) (mg : Str → Option Value) (base : Heap) (CX : CXT) (k : Nat) (f : Addr) (sp : Sp) (ks : List Str) : Prop :=
  ∀ (A : Around) (outer : List Env) (s : Shared) (H : Hp) (us1 us2 : List Value) (vs : List V) (Q : VK) (E : XK), Room k A → Env0 P w K mg base A outer s H → Vals vs (us1 ++ us2) → us2.length = ks.length → sp vs H Q E →
    codeAny (model P w) A (.call (.ref f) ⟨us1, ks.zip us2⟩) (CR CX outer P w H s Q E) s
section
variable {P : Program} {w : World} {K : PySem.W.Frag} {mg : Str → Option Value} {base : Heap} {CX : CXT} {k : Nat} {f : Addr} {fd : FuncData} {ps : List Str} {sp : Sp}
theorem fnv_raw (F : FnR P w K mg base CX k f sp) : FnV P w K mg base CX k f sp [] := fun A outer s H us1 us2 vs Q E hr e0 r hl hs => by
  have : us2 = [] := List.length_eq_zero_iff.mp hl
  subst this
  rw [List.append_nil] at r
  exact F A outer s H us1 vs Q E hr e0 r hs
theorem fnr_of (F : FnV P w K mg base CX k f sp []) : FnR P w K mg base CX k f sp := fun A outer s H us vs Q E hr e0 r hs =>
  F A outer s H us [] vs Q E hr e0 (by rw [List.append_nil]; exact r) rfl hs
theorem fnv_kw {ks : List Str} (F : FnOk P w K mg base CX k f fd ps sp) (hb : ∀ (s : Shared) (us1 us2 : List Value), K.In s.heap → us1.length + ks.length = ps.length → us2.length = ks.length → BindsTo s fd ⟨us1, ks.zip us2⟩ (ps.zip (us1 ++ us2))) : FnV P w K mg base CX k f sp ks :=
  fun A outer s H us1 us2 vs Q E hr e0 r hl hs => F.run A outer s H ⟨us1, ks.zip us2⟩ (us1 ++ us2) vs Q E hr e0 (hb s us1 us2 (e0.mod.kin.keeps fun b o e => (e0.bs b o e).1) (by
    have h1 := F.len _ _ _ _ hs
    have h2 := r.length
    rw [List.length_append] at h2
    omega) hl) r hs
end
/-! ### constant arguments behind -/
section
variable {T : Tab} {S H : Hp} {δ : DSt} {σ : L2.St}
def cst (ds : List D) : DSt := ds.map fun d => some (.fz, d)
theorem cst_get {ds : List D} {i : Nat} {m : Md} {d : D} (h : (cst ds)[i]? = some (some (m, d))) : m = .fz ∧ ds[i]? = some d := by
  unfold cst at h
  rw [List.getElem?_map] at h
  cases q : ds[i]? with
  | none => rw [q] at h; cases h
  | some x => rw [q] at h; cases h; exact ⟨rfl, rfl⟩
theorem app_slot {ds : List D} {i : Nat} {m : Md} {d : D} (h : (δ ++ cst ds)[i]? = some (some (m, d))) (hm : m ≠ .fz) : i < δ.length ∧ δ[i]? = some (some (m, d)) := by
  by_cases hi : i < δ.length
  · rw [List.getElem?_append_left hi] at h
    exact ⟨hi, h⟩
  · rw [List.getElem?_append_right (by omega)] at h
    exact absurd (cst_get h).1 hm
theorem mutA_app {ds : List D} {vs : L2.St} {b : Addr} (hl : δ.length = σ.length) : MutA (δ ++ cst ds) (σ ++ vs) b ↔ MutA δ σ b := by
  constructor
  · rintro ⟨i, m, d, e, q, r⟩
    obtain ⟨hi, e'⟩ := app_slot e (by rcases q with rfl | rfl <;> decide)
    rw [List.getElem?_append_left (by omega)] at r
    exact ⟨i, m, d, e', q, r⟩
  · rintro ⟨i, m, d, e, q, r⟩
    have hi : i < δ.length := (List.getElem?_eq_some_iff.mp e).1
    exact ⟨i, m, d, by rw [List.getElem?_append_left hi]; exact e, q, by rw [List.getElem?_append_left (by omega)]; exact r⟩
theorem movA_app {ds : List D} {vs : L2.St} {b : Addr} (hl : δ.length = σ.length) : MovA (δ ++ cst ds) (σ ++ vs) b ↔ MovA δ σ b := by
  constructor
  · rintro ⟨i, d, e, r⟩
    obtain ⟨hi, e'⟩ := app_slot e (by decide)
    rw [List.getElem?_append_left (by omega)] at r
    exact ⟨i, d, e', r⟩
  · rintro ⟨i, d, e, r⟩
    have hi : i < δ.length := (List.getElem?_eq_some_iff.mp e).1
    exact ⟨i, d, by rw [List.getElem?_append_left hi]; exact e, by rw [List.getElem?_append_left (by omega)]; exact r⟩
theorem ownAt_app {ds : List D} {vs : L2.St} {i : Nat} {b : Addr} (hl : δ.length = σ.length) : OwnAt (δ ++ cst ds) (σ ++ vs) i b ↔ OwnAt δ σ i b := by
  constructor
  · rintro ⟨m, d, e, q, r⟩
    obtain ⟨hi, e'⟩ := app_slot e q
    rw [List.getElem?_append_left (by omega)] at r
    exact ⟨m, d, e', q, r⟩
  · rintro ⟨m, d, e, q, r⟩
    have hi : i < δ.length := (List.getElem?_eq_some_iff.mp e).1
    exact ⟨m, d, by rw [List.getElem?_append_left hi]; exact e, q, by rw [List.getElem?_append_left (by omega)]; exact r⟩
theorem good_app {ds : List D} {dvs : List V} (G : Good T S H δ σ) (r : RepL T S dvs ds) : Good T S H (δ ++ cst ds) (σ ++ dvs.map some) where
  sub := G.sub
  len := by simp [cst, G.len, r.length]
  slot := fun i m d e => by
    by_cases hi : i < δ.length
    · rw [List.getElem?_append_left hi] at e
      obtain ⟨v, e1, e2⟩ := G.slot i m d e
      exact ⟨v, by rw [List.getElem?_append_left (by rw [← G.len]; exact hi)]; exact e1, e2⟩
    · rw [List.getElem?_append_right (by omega)] at e
      obtain ⟨hm, eg⟩ := cst_get e
      subst hm
      obtain ⟨v, e1, e2⟩ := r.get eg
      refine ⟨v, ?_, fun _ => e2, fun z => absurd rfl z⟩
      rw [List.getElem?_append_right (by rw [← G.len]; omega), ← G.len, List.getElem?_map, e1]
      rfl
  inj := fun i j a x y => G.inj i j a ((ownAt_app G.len).mp x) ((ownAt_app G.len).mp y)
  nown := G.nown
theorem good_pre {ds : List D} {vs : L2.St} (hl : δ.length = σ.length) (G : Good T S H (δ ++ cst ds) (σ ++ vs)) : Good T S H δ σ where
  sub := G.sub
  len := hl
  slot := fun i m d e => by
    have hi : i < δ.length := (List.getElem?_eq_some_iff.mp e).1
    obtain ⟨v, e1, e2⟩ := G.slot i m d (by rw [List.getElem?_append_left hi]; exact e)
    rw [List.getElem?_append_left (by omega)] at e1
    exact ⟨v, e1, e2⟩
  inj := fun i j a x y => G.inj i j a ((ownAt_app hl).mpr x) ((ownAt_app hl).mpr y)
  nown := G.nown
theorem stp_pre {S' H' : Hp} {δ' : DSt} {σ' : L2.St} {ds ds' : List D} {vs vs' : L2.St} (hl : δ.length = σ.length) (hl' : δ'.length = σ'.length) (hd : δ'.length = δ.length) (s : Stp S H (δ ++ cst ds) (σ ++ vs) S' H' (δ' ++ cst ds') (σ' ++ vs')) : Stp S H δ σ S' H' δ' σ' where
  ext := s.ext
  keep := fun b o e n k => s.keep b o e (fun z => n ((mutA_app hl).mp z)) fun c q => ⟨fun z => (k c q).1 ((mutA_app hl).mp z), (k c q).2⟩
  new := fun b o e => by
    rcases s.new b o e with z | ⟨z | z | z, q⟩
    · exact .inl z
    · exact .inr ⟨.inl z, q⟩
    · exact .inr ⟨.inr (.inl ((movA_app hl).mp z)), q⟩
    · exact .inr ⟨.inr (.inr z), q⟩
  mu := fun b m => by
    rcases s.mu b ((mutA_app hl').mpr m) with z | z
    · exact .inl ((mutA_app hl).mp z)
    · exact .inr z
  mov := fun b m => by
    rcases s.mov b ((movA_app hl').mpr m) with z | z
    · exact .inl ((movA_app hl).mp z)
    · exact .inr z
  dom := s.dom
  kp := fun i m d e q => by
    have hi : i < δ'.length := (List.getElem?_eq_some_iff.mp e).1
    obtain ⟨e1, d0, e2, e3⟩ := s.kp i m d (by rw [List.getElem?_append_left hi]; exact e) q
    rw [List.getElem?_append_left (by omega), List.getElem?_append_left (by omega)] at e1
    rw [List.getElem?_append_left (by omega)] at e2
    exact ⟨e1, d0, e2, e3⟩
theorem outX_len {xs : List (Md × D)} {outs : List D} (h : outs.length = xs.length) : (outX xs outs).length = xs.length := by
  unfold outX
  simp [h]
theorem outX_app {xs : List (Md × D)} {ds outs : List D} (h : outs.length = xs.length + ds.length) : outX (xs ++ ds.map fun d => (.fz, d)) outs = outX xs (outs.take xs.length) ++ cst (outs.drop xs.length) := by
  have e : outs = outs.take xs.length ++ outs.drop xs.length := (List.take_append_drop ..).symm
  unfold outX
  rw (config := { occs := .pos [1] }) [e]
  rw [List.zipWith_append (by simp; omega)]
  congr 1
  have hd : (outs.drop xs.length).length = ds.length := by simp; omega
  generalize outs.drop xs.length = os at hd
  unfold cst
  clear e h
  induction os generalizing ds with
  | nil => cases ds <;> simp at hd ⊢
  | cons o os ih =>
    cases ds with
    | nil => simp at hd
    | cons d ds =>
      simp only [List.map_cons, List.zipWith_cons_cons]
      rw [ih (by simpa using hd)]
theorem resOk_pre {H0 : Hp} {δ0 : DSt} {S' H' : Hp} {δ' : DSt} {σ' : L2.St} {ds ds' : List D} {vs : L2.St} {v : V} {r : R} (hl0 : δ0.length = σ'.length) (hl : δ'.length = σ'.length) (h : ResOk T H0 δ0 S' H' δ' σ' v r) : ResOk T H0 (δ0 ++ cst ds) S' H' (δ' ++ cst ds') (σ' ++ vs) v r := by
  cases r with
  | fz d => exact h
  | fr d =>
    obtain ⟨a, rfl, o, n, w⟩ := h
    refine ⟨a, rfl, o, fun ⟨i, z⟩ => n ⟨i, (ownAt_app hl).mp z⟩, ?_⟩
    rcases w with w | w
    · exact .inl w
    · exact .inr ((movA_app hl0).mpr w)
theorem resOk_of {H0 : Hp} {δ0 : DSt} {S' H' : Hp} {δ' : DSt} {σ' : L2.St} {ds ds' : List D} {vs : L2.St} {v : V} {r : R} (hl0 : δ0.length = σ'.length) (hl : δ'.length = σ'.length) (h : ResOk T H0 (δ0 ++ cst ds) S' H' (δ' ++ cst ds') (σ' ++ vs) v r) : ResOk T H0 δ0 S' H' δ' σ' v r := by
  cases r with
  | fz d => exact h
  | fr d =>
    obtain ⟨a, rfl, o, n, w⟩ := h
    refine ⟨a, rfl, o, fun ⟨i, z⟩ => n ⟨i, (ownAt_app hl).mpr z⟩, ?_⟩
    rcases w with w | w
    · exact .inl w
    · exact .inr ((movA_app hl0).mp w)
/-- a def whose last parameters stand at their defaults -/
theorem spF_dfl {sem : List (Md × D) → OutF} {ds : List D} {dvs : List V} (hd : ∀ S, RepL T S dvs ds) {vs : List V} {H : Hp} {Q : VK} {E : XK} (h : spF T (dfl sem ds) vs H Q E) : spF T sem (vs ++ dvs) H Q E := by
  obtain ⟨S, xs, hm, G, h⟩ := h
  have hl : (xs.map some).length = (vs.map some).length := G.len
  have hlx : xs.length = vs.length := by simpa using hl
  have em : (xs ++ ds.map fun d => (Md.fz, d)).map some = xs.map some ++ cst ds := by
    rw [List.map_append, List.map_map]; rfl
  refine ⟨S, xs ++ ds.map fun d => (.fz, d), fun x hx => ?_, ?_, ?_⟩
  · rcases List.mem_append.mp hx with hx | hx
    · exact hm x hx
    · obtain ⟨d, _, rfl⟩ := List.mem_map.mp hx
      exact .inl rfl
  · rw [em, List.map_append]
    exact good_app G (hd S)
  · unfold dfl at h
    cases q : sem (xs ++ ds.map fun d => (.fz, d)) with
    | bad => rw [q] at h; exact h
    | ok r outs =>
      rw [q] at h
      dsimp only at h
      by_cases hz : outs.length = xs.length + ds.length
      · rw [if_pos hz] at h
        obtain ⟨h1, h2⟩ := h
        refine ⟨by rw [hz]; simp, fun v S' H' G' s' hr => ?_⟩
        rw [em, outX_app hz] at s' hr
        rw [outX_app hz] at G'
        rw [List.map_append] at G' s' hr
        have hol : (outX xs (outs.take xs.length)).length = (vs.map some).length := by rw [outX_len h1]; simp [hlx]
        refine h2 v S' H' (good_pre hol G') (stp_pre hl hol (by rw [outX_len h1]; simp) s') ?_
        exact resOk_of hl hol hr
      · rw [if_neg hz] at h; exact h.elim
    | ex x outs =>
      rw [q] at h
      dsimp only at h
      by_cases hz : outs.length = xs.length + ds.length
      · rw [if_pos hz] at h
        obtain ⟨h1, h2⟩ := h
        refine ⟨by rw [hz]; simp, fun cls d S' H' G' s' he => ?_⟩
        rw [em, outX_app hz] at s'
        rw [outX_app hz] at G'
        rw [List.map_append] at G' s'
        have hol : (outX xs (outs.take xs.length)).length = (vs.map some).length := by rw [outX_len h1]; simp [hlx]
        exact h2 cls d S' H' (good_pre hol G') (stp_pre hl hol (by rw [outX_len h1]; simp) s') he
      · rw [if_neg hz] at h; exact h.elim
end
/-! ### the call -/
section
variable {T : Tab} {W : WX} {X : Cx} {S H : Hp} {δ : DSt} {σ : L2.St}
theorem PK.mono {kws : List Keyword} {t u : TA} (h : PK X kws t) (m : ∀ σ H Q, u σ H Q → t σ H Q) : PK X kws u := ⟨fun pos pins s σ H Q I q => h.run pos pins s σ H Q I (m σ H Q q)⟩
theorem sKs_nil : PK X [] (rdAs T W .nil) := by
  refine PK.mono pk_nil fun σ H Q ⟨S, δ, G, h⟩ => ?_
  simp only [denAs] at h
  exact h S H G (.refl ..) [] rfl fun i v x e => by simp at e
theorem sKs_ev {e : Expr} {nm : Option Str} {kpos : Pos} {es : List Keyword} {m : E} {ms : As} (he : PE X e (rdE T W m)) (hs : PK X es (rdAs T W ms)) : PK X (⟨nm, e, kpos⟩ :: es) (rdAs T W (.ev m ms)) := by
  refine PK.mono (pk_cons he hs) fun σ H Q ⟨S, δ, G, h⟩ => ⟨S, δ, G, ?_⟩
  simp only [denAs] at h
  refine h.bindS.mono fun r δ1 S1 H1 G1 s1 h1 v hr => ?_
  obtain ⟨x, S2, e1, G2, s2, a, k⟩ := frz_ok G1 s1 hr h1.bindS
  refine ⟨S2, δ1, G2, ?_⟩
  refine (k.back s2).bind.mono fun xs δ3 S3 H3 G3 s3 h3 vs hl hvs => ?_
  refine OutP.here G3 h3 (v :: vs) (by simp [hl]) fun i u y e1 e2 => ?_
  cases i with
  | zero => simp at e1 e2; subst e1; subst e2; exact a.sub s3.ext
  | succ i => exact hvs i u y (by simpa using e1) (by simpa using e2)
theorem run_fnV {pins : List (Addr × Obj)} {s : Shared} {lv : Nat} {f : Addr} {sp : Sp} {ks : List Str} {Q : VK} {us ws : List Value} {vs : List V} (F : FnV X.prog X.w X.K X.mg X.base (L2.CX X.prog X.w) lv f sp ks) (hr : Room lv X.A) (tk : Takes X W) (I : Inv X pins σ H s) (r : Vals vs (us ++ ws)) (hl : ws.length = ks.length)
    (h : sp vs H Q fun cls d H' => W cls d σ H') : wpAny (model X.prog X.w) X.A (call (.ref f) us (ks.zip ws)) (EP X pins σ Q) X.xe s := by
  refine wpAny_call (codeAny_mono (F X.A X.stack s H us ws vs Q _ hr I.env0 r hl h) fun r s' hq => ?_)
  cases r with
  | error e => exact tk _ _ (XE.of_call I (fun _ _ _ z => z) hq)
  | ok fl =>
    cases fl with
    | ret u => exact I.after hq
    | next => exact False.elim hq
    | brk => exact False.elim hq
    | cont => exact False.elim hq
theorem kw_each {env : Env} {pos : Pos} : ∀ {kws : List Keyword} {ks : List Str}, kws.map (·.arg) = ks.map some → (backToKw pos (keywordEach kws env)).all (·.1.isSome) = true ∧ (backToKw pos (keywordEach kws env)).filterMap (·.1) = ks ∧ (backToKw pos (keywordEach kws env)).any (·.1.isNone) = false
  | [], [], _ => ⟨rfl, rfl, rfl⟩
  | [], _ :: _, h => by simp at h
  | _ :: _, [], h => by simp at h
  | ⟨nm, e, p⟩ :: kws, k :: ks, h => by
    simp only [List.map_cons, List.cons.injEq] at h
    obtain ⟨rfl, h⟩ := h
    obtain ⟨h1, h2, h3⟩ := kw_each (env := env) (pos := pos) h
    refine ⟨?_, ?_, ?_⟩
    · show (true && _) = true
      rw [Bool.true_and]; exact h1
    · show k :: _ = k :: ks
      rw [← h2]; rfl
    · show (false || _) = false
      rw [Bool.false_or]; exact h3
theorem pe_callV {lv : Nat} {f : Addr} {sp : Sp} {ks : List Str} {x : Str} {p pos : Pos} {e : Expr} {es : List Expr} {kws : List Keyword} {t tk' : TA} (F : FnV X.prog X.w X.K X.mg X.base (L2.CX X.prog X.w) lv f sp ks) (hr : Room lv X.A) (hg : Gl X x) (hm : X.mg x = some (.ref f)) (hk : PySem.W.keepIn X.K (.ref f) = true) (tk : Takes X W)
    (ha : PA X (e :: es) t) (hkw : PK X kws tk') (hks : kws.map (·.arg) = ks.map some) (hdb : (x == ("__debug__" : Str)) = false) (hst : (e :: es).all notStar = true) :
    PE X (.Call (.Name x p) (e :: es) kws pos) (fun σ H Q => t σ H fun vs H1 => tk' σ H1 fun zs H2 => zs.length = ks.length ∧ sp (vs ++ zs) H2 Q (fun cls d H' => W cls d σ H')) := by
  refine ⟨fun pins s σ H Q I h => ?_⟩
  refine wpAny_Call_Name_kw (ld_glob I hg hm ?_ hdb)
  have hs1 := hst
  rw [List.all_cons, Bool.and_eq_true] at hs1
  obtain ⟨q1, q2, q3⟩ := kw_each (env := X.env) (pos := pos) hks
  refine PySem.W.callWith_KW (h₀ := X.base) I.ok.mod.kin hk q1 (thn (ha.run pos pins s σ H _ I h) fun us s1 ⟨vs, H1, I1, r, q⟩ => ?_) (by rw [stars hst pos, q3]; rfl) (star1 hs1.1)
  refine thn (hkw.run pos pins s1 σ H1 _ I1 q) fun ws s2 ⟨zs, H2, I2, rz, l2, qq⟩ => ⟨I2.kIn, ?_⟩
  rw [q2]
  exact run_fnV F hr tk I2 (r.append rz) (rz.length.symm.trans l2) qq
theorem sE_callk {lv : Nat} {fa : Addr} {x : Str} {p pos : Pos} {e : Expr} {es : List Expr} {kws : List Keyword} {ks : List Str} {f : Fn} {ms kms : As} (F : FnV X.prog X.w X.K X.mg X.base (L2.CX X.prog X.w) lv fa (spF T f.sem) ks) (hr : Room lv X.A) (hg : Gl X x) (hm : X.mg x = some (.ref fa)) (hk : PySem.W.keepIn X.K (.ref fa) = true) (tk : Takes X W)
    (ha : PA X (e :: es) (rdAs T W ms)) (hkw : PK X kws (rdAs T W kms)) (hks : kws.map (·.arg) = ks.map some) (hkl : ∀ δ ys δ', denAs kms δ = .ok ys δ' → ys.length = ks.length) (hdb : (x == ("__debug__" : Str)) = false) (hst : (e :: es).all notStar = true) : PE X (.Call (.Name x p) (e :: es) kws pos) (rdE T W (.callk f ms kms)) := by
  refine PE.mono (pe_callV F hr hg hm hk tk ha hkw hks hdb hst) fun σ H Q ⟨S, δ, G, h⟩ => ⟨S, δ, G, ?_⟩
  simp only [den] at h
  refine h.bind.mono fun xs δ1 S1 H1 G1 s1 h1 vs hl hvs => ⟨S1, δ1, G1, ?_⟩
  cases q : denAs kms δ1 with
  | bad => rw [q] at h1; exact h1.elim
  | ex x δ2 => rw [q] at h1; exact h1
  | ok ys δ2 =>
    have hyl := hkl _ _ _ q
    rw [q] at h1
    intro S2 H2 G2 s2 zs hl2 hzs
    refine ⟨by rw [hl2, hyl], ?_⟩
    have h2 : OutP T W σ S1 H1 δ1 (callD f (xs ++ ys) δ2) _ := h1
    refine call_rd G2 (s1.trans s2) (by simp [hl, hl2]) (fun i v x e1 e2 => ?_) (h2.back s2)
    by_cases hi : i < vs.length
    · rw [List.getElem?_append_left hi] at e1
      rw [List.getElem?_append_left (by omega)] at e2
      exact (hvs i v x e1 e2).sub s2.ext
    · rw [List.getElem?_append_right (by omega)] at e1
      rw [List.getElem?_append_right (by omega), ← hl] at e2
      exact hzs _ v x e1 e2
end
end Z

set_option Elab.async false
set_option linter.all false
set_option maxHeartbeats 1000000
/-! ZChk: a check that a text is what the small syntax says; its soundness. -/
namespace Z
open PySem L2
structure Cd where
  N : List Str
  bl : List Str
  nms : List Str
  gls : List (Str × D) := []
  kws : Nat → List Str := fun _ => []
/-- data are the same: flat ones alone -/
def sameF : D → D → Bool
  | .int a, .int b => a == b
  | .str a, .str b => a == b
  | _, _ => false
theorem sameF_eq {a b : D} (h : sameF a b = true) : a = b := by
  cases a <;> cases b <;> simp [sameF] at h <;> rw [h]
def visB (sc : Scope) (x : Str) : Bool := match sc.names.lookup x with
  | some .local => true
  | some .cell => true
  | some .free => true
  | _ => false
def locB (sc : Scope) (x : Str) : Bool := match sc.names.lookup x with
  | some .local => true
  | some .cell => true
  | _ => false
def glB (sc : Scope) (x : Str) : Bool := decide (sc.names.lookup x = some .globalImplicit)
def nmB (C : Cd) (sc : Scope) (i : Nat) (x : Str) : Bool := decide (C.N[i]? = some x) && visB sc x
def blB (C : Cd) (sc : Scope) (nm x : Str) : Bool := decide (x = nm) && glB sc nm && decide (nm ∈ C.bl)
def k1N : K1 → Option Str
  | .len => some "len"
  | .abs => some "abs"
  | .int => some "int"
  | .tuple => some "tuple"
  | .list => some "list"
  | .all => some "all"
  | .str => some "str"
  | .any => some "any"
  | _ => none
def m1N : M1 → Str
  | .join => "join"
  | .lstrip => "lstrip"
  | .split => "split"
  | .find => "find"
  | .endswith => "endswith"
  | .rmpre => "removeprefix"
  | .part => "partition"
def dBin : K2 → Option Operator
  | .add => some .Add
  | .sub => some .Sub
  | .mul => some .Mult
  | .fdiv => some .FloorDiv
  | .mod => some .Mod
  | .pow => some .Pow
  | _ => none
def dCmp : K2 → Option CmpOp
  | .eq => some .Eq
  | .ne => some .NotEq
  | .lt => some .Lt
  | .le => some .LtE
  | .gt => some .Gt
  | .ge => some .GtE
  | .in_ => some .In
  | .notin => some .NotIn
  | _ => none
def isTB : K1 → CmpOp → Bool
  | .isT, .Is => true
  | .notT, .IsNot => true
  | _, _ => false
def isNB : K1 → CmpOp → Bool
  | .isN, .Is => true
  | .notN, .IsNot => true
  | _, _ => false
/-- may stand as a test -/
def tstOk : E → Bool
  | .ife _ _ _ => false
  | .and a b => tstOk a && tstOk b
  | .or a b => tstOk a && tstOk b
  | .one a => tstOk a
  | .not a => tstOk a
  | _ => true
def isBo : E → Bool
  | .and _ _ => true
  | .or _ _ => true
  | .one _ => true
  | _ => false
def tgNames : Expr → List Str
  | .Name x _ => [x]
  | .Tuple es _ _ => es.filterMap fun e => match e with | .Name x _ => some x | _ => none
  | _ => []
def ckTg (C : Cd) (sc : Scope) : Expr → List Nat → Bool
  | .Name x _, [i] => decide (C.N[i]? = some x) && locB sc x
  | .Tuple es _ _, is => decide (is.length ≠ 1) && chkTg C.N (locB sc) es is
  | _, _ => false
def ownOf (tg : Expr) (tgs : List Nat) : List (Str × Nat) := (tgNames tg).zip tgs
def isTup : Expr → Bool
  | .Tuple _ _ _ => true
  | _ => false

mutual
def ckE (C : Cd) : E → Scope → Expr → Bool
  | .var i, sc, e => match e with
    | .Name x _ => nmB C sc i x
    | _ => false
  | .int n, _, e => match e with
    | .Constant (.int k) _ _ => decide (k = n)
    | _ => false
  | .str s, _, e => match e with
    | .Constant (.str x) _ _ => decide (x = sx s)
    | _ => false
  | .bl b, _, e => match e with
    | .Constant (.bool k) _ _ => decide (k = b)
    | _ => false
  | .non, _, e => match e with
    | .Constant .none _ _ => true
    | _ => false
  | .gl _ d, sc, e => match e with
    | .Name y _ => glB sc y && !(y == ("__debug__" : Str)) && C.gls.any fun p => decide (p.1 = y) && sameF p.2 d
    | _ => false
  | .dspc k i, sc, e => match e with
    | .Dict [some (.Constant (.str z) _ _)] [.Constant (.int j) _ _] _ => decide (z = sx k) && decide (j = i)
    | _ => false
  | .fs es, sc, e => match e with
    | .JoinedStr (x :: y :: xs) _ => ckEs C es sc (x :: y :: xs)
    | _ => false
  | .tup es, sc, e => match e with
    | .Tuple xs _ _ => ckEs C es sc xs && decide (lenEs es ≤ 1000)
    | _ => false
  | .lst es, sc, e => match e with
    | .List xs _ => ckEs C es sc xs && decide (lenEs es ≤ 1000)
    | _ => false
  | .op1 p a, sc, e => match e with
    | .UnaryOp .USub x _ => decide (p = .neg) && ckE C a sc x
    | .FormattedValue x (-1) none _ => decide (p = .fmt) && ckE C a sc x
    | .Compare x [op] [.Constant .none _ _] _ => isNB p op && ckE C a sc x
    | .Compare x [op] [.Constant (.bool true) _ _] _ => isTB p op && ckE C a sc x
    | .Subscript x (.Slice none none (some (.UnaryOp .USub (.Constant (.int 1) _ _) _)) _) _ => decide (p = .rev) && ckE C a sc x
    | .Call (.Name f _) [x] [] _ => (match k1N p with
      | some nm => blB C sc nm f
      | none => false) && ckE C a sc x
    | _ => false
  | .op2 p a b, sc, e => match e with
    | .BinOp x op y _ => decide (dBin p = some op) && ckE C a sc x && ckE C b sc y
    | .Compare x [op] [y] _ => decide (dCmp p = some op) && ckE C a sc x && ckE C b sc y
    | .Subscript x y _ => decide (p = .idx) && ckE C a sc x && ckE C b sc y
    | .Call (.Name f _) [x, y] [] _ => decide (p = .max) && blB C sc "max" f && ckE C a sc x && ckE C b sc y
    | _ => false
  | .sm1 p a b, sc, e => match e with
    | .Call (.Attribute x f apos) [y] [] cpos => decide (f = m1N p) && notSuper x && (apos.endLine == cpos.line) && ckE C a sc x && ckE C b sc y
    | _ => false
  | .slc a lo hi, sc, e => match e with
    | .Subscript x (.Slice l h none _) _ => ckE C a sc x && ckO C lo sc l && ckO C hi sc h
    | _ => false
  | .isi a one ks, sc, e => match e with
    | .Call (.Name f _) [x, .Name k _] [] _ => one && blB C sc "isinstance" f && (match ks with
      | [kk] => (match kk with | .cls _ => false | _ => true) && blB C sc (Str.ofString (kiN kk)) k
      | _ => false) && ckE C a sc x
    | .Call (.Name f _) [x, .Tuple es _ _] [] _ => (!one) && blB C sc "isinstance" f && chkKis ks es sc && decide (ks ≠ []) && decide (ks.length ≤ 1000) && ks.all (fun k => decide (Str.ofString (kiN k) ∈ C.bl)) && ckE C a sc x
    | _ => false
  | .and a b, sc, e => match e with
    | .BoolOp .And (x :: y :: r) pos => ckE C a sc x && ckE C b sc (.BoolOp .And (y :: r) pos)
    | _ => false
  | .or a b, sc, e => match e with
    | .BoolOp .Or (x :: y :: r) pos => ckE C a sc x && ckE C b sc (.BoolOp .Or (y :: r) pos)
    | _ => false
  | .one a, sc, e => match e with
    | .BoolOp _ [x] _ => ckE C a sc x
    | _ => false
  | .not a, sc, e => match e with
    | .UnaryOp .Not x _ => ckE C a sc x
    | _ => false
  | .ife c a b, sc, e => match e with
    | .IfExp x y z _ => tstOk c && ckE C c sc x && ckE C a sc y && ckE C b sc z
    | _ => false
  | .chn p q a b c, sc, e => match e with
    | .Compare x [op, op'] [y, z] _ => decide (dCmp p = some op) && decide (dCmp q = some op') && ckE C a sc x && ckE C b sc y && ckE C c sc z
    | _ => false
  | .fld _ _ _, _, _ => false
  | .pop i, sc, e => match e with
    | .Call (.Attribute (.Name x _) f apos) [] [] cpos => decide (f = "pop") && nmB C sc i x && (apos.endLine == cpos.line)
    | _ => false
  | .call f as, sc, e => match e with
    | .Call (.Name x _) xs [] _ => decide (C.nms[f.id]? = some x) && (C.kws f.id).isEmpty && glB sc x && ckAs C as sc xs
    | _ => false
  | .callk f as kas, sc, e => match e with
    | .Call (.Name x _) (y :: xs) ks _ => decide (C.nms[f.id]? = some x) && glB sc x && ckAs C as sc (y :: xs) && ckKs C kas sc ks (C.kws f.id)
    | _ => false
  | .comp tgs src cond elt, sc, e => match e with
    | .ListComp y [⟨tg, iter, ifs, ia⟩] scope _ => decide (ia = 0) && ckSrc C src sc tg iter && ckTg C scope tg tgs && decide ((ownOf tg tgs).map (·.2) = tgs) && blkC C.N sc scope (ownOf tg tgs) && ckC C cond scope ifs && ckE C elt scope y
    | _ => false
def ckEs (C : Cd) : Es → Scope → List Expr → Bool
  | .nil, _, [] => true
  | .cons m ms, sc, e :: es => ckE C m sc e && ckEs C ms sc es
  | _, _, _ => false
def ckO (C : Cd) : OE → Scope → Option Expr → Bool
  | .none, _, none => true
  | .some m, sc, some e => ckE C m sc e
  | _, _, _ => false
def ckC (C : Cd) : OE → Scope → List Expr → Bool
  | .none, _, [] => true
  | .some m, sc, [e] => tstOk m && ckE C m sc e
  | _, _, _ => false
def ckAs (C : Cd) : As → Scope → List Expr → Bool
  | .nil, _, [] => true
  | .ev m ms, sc, e :: es => ckE C m sc e && ckAs C ms sc es
  | .pk i ms, sc, .Name x _ :: es => nmB C sc i x && ckAs C ms sc es
  | _, _, _ => false
def ckKs (C : Cd) : As → Scope → List Keyword → List Str → Bool
  | .nil, _, [], [] => true
  | .ev m ms, sc, ⟨some k, e, _⟩ :: es, k' :: ks => decide (k = k') && ckE C m sc e && ckKs C ms sc es ks
  | _, _, _, _ => false
def ckSrc (C : Cd) : Src → Scope → Expr → Expr → Bool
  | .seq m, sc, _, e => ckE C m sc e
  | .rng1 a, sc, _, e => match e with
    | .Call (.Name f _) [x] [] _ => blB C sc "range" f && ckE C a sc x
    | _ => false
  | .rng2 a b, sc, _, e => match e with
    | .Call (.Name f _) [x, y] [] _ => blB C sc "range" f && ckE C a sc x && ckE C b sc y
    | _ => false
  | .zip a b, sc, tg, e => match e with
    | .Call (.Name f _) [x, y] [] _ => isTup tg && blB C sc "zip" f && ckE C a sc x && ckE C b sc y
    | _ => false
end
mutual
def callsE : E → List Fn
  | .var _ => []
  | .int _ => []
  | .str _ => []
  | .bl _ => []
  | .non => []
  | .gl _ _ => []
  | .dspc _ _ => []
  | .fs es => callsEs es
  | .tup es => callsEs es
  | .lst es => callsEs es
  | .op1 _ a => callsE a
  | .op2 _ a b => callsE a ++ callsE b
  | .sm1 _ a b => callsE a ++ callsE b
  | .slc a lo hi => callsE a ++ (callsO lo ++ callsO hi)
  | .isi a _ _ => callsE a
  | .and a b => callsE a ++ callsE b
  | .or a b => callsE a ++ callsE b
  | .one a => callsE a
  | .not a => callsE a
  | .ife c a b => callsE c ++ (callsE a ++ callsE b)
  | .chn _ _ a b c => callsE a ++ (callsE b ++ callsE c)
  | .fld a _ _ => callsE a
  | .pop _ => []
  | .call f as => f :: callsAs as
  | .callk f as kas => f :: (callsAs as ++ callsAs kas)
  | .comp _ src cond elt => callsSrc src ++ (callsO cond ++ callsE elt)
def callsEs : Es → List Fn
  | .nil => []
  | .cons e es => callsE e ++ callsEs es
def callsO : OE → List Fn
  | .none => []
  | .some e => callsE e
def callsAs : As → List Fn
  | .nil => []
  | .ev e as => callsE e ++ callsAs as
  | .pk _ as => callsAs as
def callsSrc : Src → List Fn
  | .seq e => callsE e
  | .rng1 e => callsE e
  | .rng2 a b => callsE a ++ callsE b
  | .zip a b => callsE a ++ callsE b
end

/-! ### contexts -/
structure SRel (sc : Scope) (X : Cx) : Prop where
  loc : ∀ x, sc.names.lookup x = some .local → X.env.scope.names.lookup x = some .local
  cel : ∀ x, sc.names.lookup x = some .cell → X.env.scope.names.lookup x = some .cell ∧ X.fn x = true
  fre : ∀ x, sc.names.lookup x = some .free → X.env.scope.names.lookup x = some .cell ∨ X.env.scope.names.lookup x = some .free
  glo : ∀ x, sc.names.lookup x = some .globalImplicit → X.env.scope.names.lookup x = some .globalImplicit
structure COk (T : Tab) (W : WX) (X : Cx) (C : Cd) (sc : Scope) : Prop where
  N : X.N = C.N
  nd : X.N.Nodup
  calm : X.calm = true
  K : X.K = T.K
  tk : Takes X W
  po : PassesOwn (model X.prog X.w) X.A X.env X.xe
  sr : SRel sc X
  kind : X.env.scope.kind = .function
  bl : ∀ x ∈ C.bl, X.mg x = none
  un : X.A.units + 100 < cLine
  gl : ∀ p ∈ C.gls, ∃ u v, X.mg p.1 = some u ∧ RelV v u ∧ ∀ S, Rep T S v p.2
  dbg : ∀ x ∈ C.N, (x == ("__debug__" : Str)) = false ∧ (x == ("__classdict__" : Str)) = false
def FnP (T : Tab) (X : Cx) (C : Cd) (f : Fn) : Prop := ∃ x lv fa, C.nms[f.id]? = some x ∧ FnV X.prog X.w X.K X.mg X.base (L2.CX X.prog X.w) lv fa (spF T f.sem) (C.kws f.id) ∧ Room lv X.A ∧ X.mg x = some (.ref fa) ∧ PySem.W.keepIn X.K (.ref fa) = true ∧ (x == ("__debug__" : Str)) = false
section
variable {T : Tab} {W : WX} {X : Cx} {C : Cd} {sc : Scope}
theorem COk.vis (H : COk T W X C sc) {x : Str} (h : visB sc x = true) : Vis X.env.scope x := by
  unfold visB at h
  split at h
  · rename_i e; exact .inl (H.sr.loc x e)
  · rename_i e; exact .inr (.inl (H.sr.cel x e).1)
  · rename_i e; exact .inr ((H.sr.fre x e).elim .inl .inr)
  · cases h
theorem COk.loc (H : COk T W X C sc) {x : Str} (h : locB sc x = true) : Loc X.env.scope x ∧ (X.fn x = true ∨ X.env.scope.names.lookup x = some .local) := by
  unfold locB at h
  split at h
  · rename_i e; exact ⟨.inl (H.sr.loc x e), .inr (H.sr.loc x e)⟩
  · rename_i e; exact ⟨.inr (H.sr.cel x e).1, .inl (H.sr.cel x e).2⟩
  · cases h
theorem COk.glo (H : COk T W X C sc) {x : Str} (h : glB sc x = true) : Gl X x := H.sr.glo x (of_decide_eq_true h)
theorem COk.nm (H : COk T W X C sc) {i : Nat} {x : Str} (h : nmB C sc i x = true) : X.N[i]? = some x ∧ Vis X.env.scope x ∧ (x == ("__debug__" : Str)) = false ∧ (x == ("__classdict__" : Str)) = false := by
  simp only [nmB, Bool.and_eq_true, decide_eq_true_eq] at h
  obtain ⟨d1, d2⟩ := H.dbg x (List.mem_of_getElem? h.1)
  exact ⟨by rw [H.N]; exact h.1, H.vis h.2, d1, d2⟩
theorem COk.blt (H : COk T W X C sc) {nm x : Str} (h : blB C sc nm x = true) : x = nm ∧ Gl X nm ∧ X.mg nm = none := by
  simp only [blB, Bool.and_eq_true, decide_eq_true_eq] at h
  exact ⟨h.1.1, H.glo h.1.2, H.bl nm h.2⟩
theorem relS_free {sc : Scope} : ∀ {names : List (Str × NameKind)} {x : Str}, names.lookup x = some .free →
    (names.map fun (n, k) => if (k == .free && sc.kind == .function && sc.names.lookup n == some .cell) then (n, NameKind.cell) else (n, k)).lookup x = some .cell ∨
    (names.map fun (n, k) => if (k == .free && sc.kind == .function && sc.names.lookup n == some .cell) then (n, NameKind.cell) else (n, k)).lookup x = some .free
  | [], _, h => by simp at h
  | (n, k) :: r, x, h => by
    have ih := @relS_free sc r x
    rw [List.map_cons]
    cases hx : x == n with
    | true =>
      simp only [List.lookup_cons, hx] at h
      cases h
      by_cases hc : ((NameKind.free == .free) && sc.kind == .function && sc.names.lookup n == some .cell) = true
      · left; simp only [if_pos hc, List.lookup_cons, hx]
      · right; simp only [if_neg hc, List.lookup_cons, hx]
    | false =>
      simp only [List.lookup_cons, hx] at h
      by_cases hc : (k == .free && sc.kind == .function && sc.names.lookup n == some .cell) = true
      · simp only [if_pos hc, List.lookup_cons, hx]; exact ih h
      · simp only [if_neg hc, List.lookup_cons, hx]; exact ih h
theorem SRel.blk {scope : Scope} (s : Shared) (H : Hp) (D : Addr) (cl : List (Str × Addr)) (fp : List Addr) : SRel scope (X.blk s H scope (compEnvC scope cl D X.env) fp) where
  loc := fun x h => lookup_relS_keep (sc := X.env.scope) (by decide) h
  cel := fun x h => ⟨lookup_relS_keep (sc := X.env.scope) (by decide) h, by
    show (scope.names.lookup x == some .cell) = true
    rw [h]; rfl⟩
  fre := fun x h => relS_free (sc := X.env.scope) h
  glo := fun x h => lookup_relS_keep (sc := X.env.scope) (by decide) h
theorem COk.blk {scope : Scope} (G : COk T W X C sc) (hk : scope.kind = .function) (s : Shared) (H : Hp) (D : Addr) (cl : List (Str × Addr)) (fp : List Addr) : COk T W0 (X.blk s H scope (compEnvC scope cl D X.env) fp) C scope where
  N := G.N
  nd := G.nd
  calm := G.calm
  K := G.K
  tk := takes0
  po := PassesOwn.never
  sr := SRel.blk s H D cl fp
  kind := hk
  bl := G.bl
  un := G.un
  gl := G.gl
  dbg := G.dbg
theorem BlkOk.env (G : COk T W X C sc) {scope : Scope} {own : List (Str × Nat)} (h : BlkOk X.N sc scope own) : BlkOk X.N X.env.scope scope own :=
  ⟨h.kind, h.uniq, h.ix, fun y hy e => (h.free y hy e).elim (fun k => .inl (G.sr.cel _ k).1) (fun k => G.sr.fre _ k), h.own⟩
end
end Z

set_option Elab.async false
set_option linter.all false
set_option maxHeartbeats 1000000
/-! ZSnd: the check is sound. -/
namespace Z
open PySem L2
structure Snd (T : Tab) (W : WX) (X : Cx) (e : Expr) (m : E) : Prop where
  p : PE X e (rdE T W m)
  a : PE X e (rdA T W m)
  t : tstOk m = true → PT X e (rdT T W m)
  w : isBo m = true → tstOk m = true → PW X e (rdT T W m)
  st : notStar e = true
  z : notSet e = true
  sl : notSlice e = true
section
variable {T : Tab} {W : WX} {X : Cx} {C : Cd} {sc : Scope}
theorem Snd.plain {e : Expr} {m : E} (he : PE X e (rdE T W m)) (hv : isVar m = false) (hp : plainTest e = true) (hb : isBo m = false) (st : notStar e = true) (z : notSet e = true) (sl : notSlice e = true) : Snd T W X e m where
  p := he
  a := sA_of he hv
  t := fun _ => sT_val he (plainTest_ok hp)
  w := fun h => by rw [hb] at h; cases h
  st := st
  z := z
  sl := sl
theorem Snd.cmp {e : Expr} {m : E} {t : TE} (he : PE X e (rdE T W m)) (ht : PT X e (tTest t)) (hm : ∀ σ H Q, rdE T W m σ H Q → t σ H Q) (hv : isVar m = false) (hb : isBo m = false) (st : notStar e = true) (z : notSet e = true) (sl : notSlice e = true) : Snd T W X e m where
  p := he
  a := sA_of he hv
  t := fun _ => sT_tTest ht hm
  w := fun h => by rw [hb] at h; cases h
  st := st
  z := z
  sl := sl
/-- what s_op2 reads -/
theorem rd_op2 {a b : E} {p : K2} {rr : R2} (hp : P2Ok T (k2 p) rr) : ∀ σ H Q, rdE T W (.op2 p a b) σ H Q → rdA T W a σ H fun v H1 => rdA T W b σ H1 fun w H2 => rr v w H2 Q := fun σ H Q ⟨S, δ, G, h⟩ => by
  refine ⟨S, δ, G, ?_⟩
  simp only [den] at h
  refine h.bind.mono fun x δ1 S1 H1 G1 s1 h1 v av => ⟨S1, δ1, G1, ?_⟩
  refine h1.bind.mono fun y δ2 S2 H2 G2 s2 h2 w aw => ?_
  obtain ⟨c, hc, k⟩ := prim_end G2 (s1.trans s2) h2
  cases e1 : res δ2 x with
  | none => rw [e1] at hc; cases hc
  | some d =>
    cases e2 : res δ2 y with
    | none => rw [e1, e2] at hc; cases hc
    | some d' =>
      rw [e1, e2] at hc
      exact hp S2 H2 v w d d' c Q G2.sub ((av.sub s2.ext).rd G2 e1) (aw.rd G2 e2) hc k
theorem rd_op1 {a : E} {p : K1} {rr : V → Hp → VK → Prop} (hp : P1Ok T (k1 p) rr) : ∀ σ H Q, rdE T W (.op1 p a) σ H Q → rdA T W a σ H fun v H1 => rr v H1 Q := fun σ H Q ⟨S, δ, G, h⟩ => by
  refine ⟨S, δ, G, ?_⟩
  simp only [den] at h
  refine h.bind.mono fun x δ1 S1 H1 G1 s1 h1 v av => ?_
  obtain ⟨c, hc, k⟩ := prim_end G1 s1 h1
  cases e1 : res δ1 x with
  | none => rw [e1] at hc; cases hc
  | some d =>
    rw [e1] at hc
    exact hp S1 H1 v d c Q G1.sub (av.rd G1 e1) hc k
/-- a comparison of one operator -/
theorem cmp_ok {p : K2} {op : CmpOp} {rr : R2} {a b : E} {x y : Expr} {pos : Pos} (ho : OpR X (compareOp op) rr) (hp : P2Ok T (k2 p) rr) (ha : Snd T W X x a) (hb : Snd T W X y b) : Snd T W X (.Compare x [op] [y] pos) (.op2 p a b) :=
  .cmp (s_op2 (pe_cmpR ho ha.a hb.a (mark_of hb.z)) hp) (pt_cmpR ho ha.a hb.a (mark_of hb.z)) (rd_op2 hp) rfl rfl rfl rfl rfl
theorem bin_ok {p : K2} {op : Operator} {rr : R2} {a b : E} {x y : Expr} {pos : Pos} (ho : OpR X (binaryOp op) rr) (hp : P2Ok T (k2 p) rr) (ha : Snd T W X x a) (hb : Snd T W X y b) : Snd T W X (.BinOp x op y pos) (.op2 p a b) :=
  .plain (s_op2 (pe_op ho ha.a hb.a) hp) rfl rfl rfl rfl rfl rfl
theorem opIn2 (neg : Bool) : OpR X (compareOp (if neg then .NotIn else .In)) (rIn2 X.K neg) := by
  cases neg with
  | false => exact OpR.or op_in_seq op_in_sign
  | true => exact OpR.or op_notIn_seq op_notIn_sign
def cmpR (K : PySem.W.Frag) : K2 → R2
  | .eq => rEqD K
  | .ne => rNeD K
  | .lt => rI0 fun i j => .bl (decide (i < j))
  | .le => rI0 fun i j => .bl (decide (i ≤ j))
  | .gt => rI0 fun i j => .bl (decide (j < i))
  | .ge => rI0 fun i j => .bl (decide (j ≤ i))
  | .in_ => rIn2 K false
  | .notin => rIn2 K true
  | _ => fun _ _ _ _ => False
theorem cmp_rule (G : COk T W X C sc) {p : K2} {op : CmpOp} (h : dCmp p = some op) : OpR X (compareOp op) (cmpR T.K p) ∧ P2Ok T (k2 p) (cmpR T.K p) := by
  have hK := G.K
  cases p <;> cases h
  · exact ⟨by rw [← hK]; exact op_eqD (by have := G.un; omega), p2_eq⟩
  · exact ⟨by rw [← hK]; exact op_neD (by have := G.un; omega), p2_ne⟩
  · exact ⟨op_lt, p2_lt⟩
  · exact ⟨op_le, p2_le⟩
  · exact ⟨op_gt, p2_gt⟩
  · exact ⟨op_ge, p2_ge⟩
  · exact ⟨by rw [← hK]; exact opIn2 false, p2_in⟩
  · exact ⟨by rw [← hK]; exact opIn2 true, p2_notin⟩

/-! ### lists of expressions, sources -/
theorem hst_cons {e : Expr} {es : List Expr} (h : notStar e = true) (h' : es.all notStar = true) : (e :: es).all notStar = true := by
  rw [List.all_cons, h, h']
  rfl
def gOf (K : PySem.W.Frag) : List Nat → TG
  | [i] => gName i
  | is => gTup K is.length (gNames is)
theorem tg_ok (G : COk T W X C sc) {tg : Expr} {tgs : List Nat} (h : ckTg C sc tg tgs = true) : PG X tg (gOf T.K tgs) ∧ TgOk T tgs (gOf T.K tgs) := by
  have hf : ∀ x, locB sc x = true → Loc X.env.scope x ∧ (X.fn x = true ∨ X.env.scope.names.lookup x = some .local) := fun x => G.loc
  cases tg with
  | Name x p =>
    match tgs, h with
    | [i], h =>
      simp only [ckTg, Bool.and_eq_true, decide_eq_true_eq] at h
      exact ⟨pg_name G.nd (by rw [G.N]; exact h.1) (hf x h.2).1 (hf x h.2).2, tg_name i⟩
    | [], h => simp [ckTg] at h
    | _ :: _ :: _, h => simp [ckTg] at h
  | Tuple es k p =>
    simp only [ckTg, Bool.and_eq_true, decide_eq_true_eq] at h
    have e : gOf T.K tgs = gTup T.K tgs.length (gNames tgs) := by
      match tgs, h.1 with
      | [], _ => rfl
      | _ :: _ :: _, _ => rfl
    rw [e]
    refine ⟨?_, tg_tup tgs h.1⟩
    rw [← G.K]
    exact pg_many G.calm G.nd hf (by rw [G.N]; exact h.2)
  | _ => simp [ckTg] at h
/-- the parts of a comprehension -/
structure CompB (T : Tab) (W : WX) (X : Cx) (y tg iter : Expr) (ifs : List Expr) (scope : Scope) (tgs : List Nat) (src : Src) (cond : OE) (elt : E) : Prop where
  hi : PI X tg iter (rdSrc T W src)
  ok : BlkOk X.N X.env.scope scope (ownOf tg tgs)
  ho : (ownOf tg tgs).map (·.2) = tgs
  hgo : TgOk T tgs (gOf T.K tgs)
  hg : ∀ (s : Shared) (H : Hp) (D : Addr) (cl : List (Str × Addr)) (fp : List Addr), PG (X.blk s H scope (compEnvC scope cl D X.env) fp) tg (gOf T.K tgs)
  ht : ∀ (s : Shared) (H : Hp) (D : Addr) (cl : List (Str × Addr)) (fp : List Addr), PTs (X.blk s H scope (compEnvC scope cl D X.env) fp) ifs (rdC0 T cond)
  he : ∀ (s : Shared) (H : Hp) (D : Addr) (cl : List (Str × Addr)) (fp : List Addr), PE (X.blk s H scope (compEnvC scope cl D X.env) fp) y (rdE T W0 elt)
  hs : ∀ x, foldedSetIterable iter X.env x = pure x
def FnA (T : Tab) (X : Cx) (C : Cd) (l : List Fn) : Prop := ∀ f ∈ l, FnP T X C f
theorem FnA.l {l l' : List Fn} (h : FnA T X C (l ++ l')) : FnA T X C l := fun f hf => h f (List.mem_append_left _ hf)
theorem FnA.r {l l' : List Fn} (h : FnA T X C (l ++ l')) : FnA T X C l' := fun f hf => h f (List.mem_append_right _ hf)
theorem FnA.blk {l : List Fn} (h : FnA T X C l) (s : Shared) (H : Hp) (scope : Scope) (D : Addr) (cl : List (Str × Addr)) (fp : List Addr) : FnA T (X.blk s H scope (compEnvC scope cl D X.env) fp) C l := h
theorem mkComp (G : COk T W X C sc) {y tg iter : Expr} {ifs : List Expr} {scope : Scope} {tgs : List Nat} {src : Src} {cond : OE} {elt : E} (h1 : ckTg C scope tg tgs = true) (h2 : (ownOf tg tgs).map (·.2) = tgs) (h3 : blkC C.N sc scope (ownOf tg tgs) = true)
    (hi : PI X tg iter (rdSrc T W src)) (hz : notSet iter = true)
    (ht : ∀ X', COk T W0 X' C scope → (∀ l, FnA T X C l → FnA T X' C l) → PTs X' ifs (rdC0 T cond)) (he : ∀ X', COk T W0 X' C scope → (∀ l, FnA T X C l → FnA T X' C l) → PE X' y (rdE T W0 elt)) : CompB T W X y tg iter ifs scope tgs src cond elt := by
  have ok := blkOk_by h3
  rw [← G.N] at ok
  have gb := fun s H D cl fp => G.blk ok.kind s H D cl fp
  exact ⟨hi, BlkOk.env G ok, h2, (tg_ok (gb {} (fun _ => none) 0 [] []) h1).2, fun s H D cl fp => (tg_ok (gb s H D cl fp) h1).1, fun s H D cl fp => ht _ (gb s H D cl fp) fun l h => h, fun s H D cl fp => he _ (gb s H D cl fp) fun l h => h, fold_of hz⟩

theorem len_rule (hK : X.K = T.K) : CallR X (.builtin "len") (fun xs H Q => (∃ p ys, xs = [.ref p] ∧ (SqL T.K H p ys ∨ SqT T.K H p ys) ∧ Q (.int ys.length) H) ∨ ∃ z, xs = [.str z] ∧ z.length ≤ sizeLine ∧ Q (.int z.length) H) := by
  rw [← hK]
  exact call_len_seq.or call_len_str
theorem op1_call (G : COk T W X C sc) {p : K1} {nm f : Str} {x : Expr} {a : E} {np pos : Pos} (h : k1N p = some nm) (hb : blB C sc nm f = true) (ha : Snd T W X x a) : Snd T W X (.Call (.Name f np) [x] [] pos) (.op1 p a) := by
  obtain ⟨rfl, hg, hm⟩ := G.blt hb
  have hK := G.K
  refine .plain ?_ rfl rfl rfl rfl rfl rfl
  have pa := pa_cons ha.a pa_nil (star1 ha.st)
  cases p <;> cases h
  · exact s_op1 (pe_callB (len_rule hK) hg hm PySem.boot_len pa (by decide +kernel) (by decide +kernel) (star1 ha.st) rfl) p1_len
  · exact s_op1 (pe_callB call_abs hg hm PyProof.Rows.boot_abs pa (by decide +kernel) (by decide +kernel) (star1 ha.st) rfl) p1_abs
  · exact s_op1 (pe_callTy call_int1 hg hm PyProof.Rows.boot_int pa (by decide +kernel) (by decide +kernel) (star1 ha.st) rfl) p1_int
  · have p1 := @p1_tuple T
    rw [← hK] at p1
    exact s_op1 (pe_callTy call_tuple_of hg hm PyProof.Rows.boot_tuple pa (by decide +kernel) (by decide +kernel) (star1 ha.st) rfl) p1
  · have p1 := @p1_list T
    rw [← hK] at p1
    exact s_op1 (pe_callTy call_list_of hg hm PyProof.Rows.boot_list pa (by decide +kernel) (by decide +kernel) (star1 ha.st) rfl) p1
  · exact s_op1 (pe_callTy (CallR.or call_str_int SkE.call_str_str) hg hm PyProof.Rows.boot_str pa (by decide +kernel) (by decide +kernel) (star1 ha.st) rfl) p1_str
  · have p1 := @p1_all T
    rw [← hK] at p1
    exact s_op1 (pe_callB (cr_all G.calm) hg hm PyProof.Rows.boot_all pa (by decide +kernel) (by decide +kernel) (star1 ha.st) rfl) p1
  · have p1 := @p1_any T
    rw [← hK] at p1
    exact s_op1 (pe_callB (cr_any G.calm) hg hm PyProof.Rows.boot_any pa (by decide +kernel) (by decide +kernel) (star1 ha.st) rfl) p1
theorem bin_rule (G : COk T W X C sc) {p : K2} {op : Operator} {a b : E} {x y : Expr} {pos : Pos} (h : dBin p = some op) (ha : Snd T W X x a) (hb : Snd T W X y b) : Snd T W X (.BinOp x op y pos) (.op2 p a b) := by
  cases p <;> cases h
  · exact bin_ok op_add3 p2_add ha hb
  · exact bin_ok op_sub p2_sub ha hb
  · exact bin_ok op_mul2 p2_mul ha hb
  · exact bin_ok op_fdiv p2_fdiv ha hb
  · exact bin_ok op_mod p2_mod ha hb
  · exact bin_ok op_pow p2_pow ha hb
theorem chn_ok (G : COk T W X C sc) {p q : K2} {op op' : CmpOp} {a b c : E} {x y z : Expr} {pos : Pos} (h1 : dCmp p = some op) (h2 : dCmp q = some op') (ha : Snd T W X x a) (hb : Snd T W X y b) (hc : Snd T W X z c) : Snd T W X (.Compare x [op, op'] [y, z] pos) (.chn p q a b c) :=
  have hm : lastMarks [op, op'] [y, z] = false := (show behindInMarks op' z = false from mark_of hc.z)
  .cmp (sE_chn (pe_chain (cmp_rule G h1).1 (cmp_rule G h2).1 ha.a hb.a hc.a hm) (cmp_rule G h1).2 (cmp_rule G h2).2)
    (pt_chain (cmp_rule G h1).1 (cmp_rule G h2).1 ha.a hb.a hc.a hm) (rd_chn (cmp_rule G h1).2 (cmp_rule G h2).2) rfl rfl rfl rfl rfl
end

section
variable {T : Tab} {C : Cd}
theorem isN_ok {W : WX} {X : Cx} {p : K1} {op : CmpOp} {x : Expr} {a : E} {j : Nat} {np pos : Pos} (h : isNB p op = true) (ha : Snd T W X x a) : Snd T W X (.Compare x [op] [.Constant .none j np] pos) (.op1 p a) := by
  have e : (p = .isN ∧ op = .Is) ∨ (p = .notN ∧ op = .IsNot) := by
    cases p <;> cases op <;> first | exact .inl ⟨rfl, rfl⟩ | exact .inr ⟨rfl, rfl⟩ | cases h
  rcases e with ⟨rfl, rfl⟩ | ⟨rfl, rfl⟩
  · have f : ∀ σ H Q, (rdA T W a σ H fun v H1 => Q (.bl (decide (v = .non))) H1) → tOp (fun x y H Q => y = V.non ∧ Q (.bl (decide (x = .non))) H) (rdA T W a) (tC .non) σ H Q := fun σ H Q ⟨S, δ, G, h⟩ => ⟨S, δ, G, h.mono fun x δ1 S1 H1 G1 s1 k v av => ⟨rfl, k v av⟩⟩
    exact .cmp (s_op1 (PE.mono (pe_cmpR op_isN ha.a pe_non (nomark _)) f) p1_isN) (pt_cmpR op_isN ha.a pe_non (nomark _)) (fun σ H Q h => f σ H Q (rd_op1 p1_isN σ H Q h)) rfl rfl rfl rfl rfl
  · have f : ∀ σ H Q, (rdA T W a σ H fun v H1 => Q (.bl (!decide (v = .non))) H1) → tOp (fun x y H Q => y = V.non ∧ Q (.bl (!decide (x = .non))) H) (rdA T W a) (tC .non) σ H Q := fun σ H Q ⟨S, δ, G, h⟩ => ⟨S, δ, G, h.mono fun x δ1 S1 H1 G1 s1 k v av => ⟨rfl, k v av⟩⟩
    exact .cmp (s_op1 (PE.mono (pe_cmpR op_notN ha.a pe_non (nomark _)) f) p1_notN) (pt_cmpR op_notN ha.a pe_non (nomark _)) (fun σ H Q h => f σ H Q (rd_op1 p1_notN σ H Q h)) rfl rfl rfl rfl rfl
theorem isT_ok {W : WX} {X : Cx} {p : K1} {op : CmpOp} {x : Expr} {a : E} {j : Nat} {np pos : Pos} (h : isTB p op = true) (ha : Snd T W X x a) : Snd T W X (.Compare x [op] [.Constant (.bool true) j np] pos) (.op1 p a) := by
  have e : (p = .isT ∧ op = .Is) ∨ (p = .notT ∧ op = .IsNot) := by
    cases p <;> cases op <;> first | exact .inl ⟨rfl, rfl⟩ | exact .inr ⟨rfl, rfl⟩ | cases h
  rcases e with ⟨rfl, rfl⟩ | ⟨rfl, rfl⟩
  · have f : ∀ σ H Q, (rdA T W a σ H fun v H1 => ∃ b, v = .bl b ∧ Q (.bl b) H1) → tOp rIsB (rdA T W a) (tC (.bl true)) σ H Q := fun σ H Q ⟨S, δ, G, h⟩ => ⟨S, δ, G, h.mono fun x δ1 S1 H1 G1 s1 k v av => by
      obtain ⟨b, rfl, q⟩ := k v av
      exact ⟨b, true, rfl, rfl, by cases b <;> exact q⟩⟩
    exact .cmp (s_op1 (PE.mono (pe_cmpR op_isBl ha.a pe_bl (nomark _)) f) p1_isT) (pt_cmpR op_isBl ha.a pe_bl (nomark _)) (fun σ H Q h => f σ H Q (rd_op1 p1_isT σ H Q h)) rfl rfl rfl rfl rfl
  · have f : ∀ σ H Q, (rdA T W a σ H fun v H1 => ∃ b, v = .bl b ∧ Q (.bl (!b)) H1) → tOp rNotB (rdA T W a) (tC (.bl true)) σ H Q := fun σ H Q ⟨S, δ, G, h⟩ => ⟨S, δ, G, h.mono fun x δ1 S1 H1 G1 s1 k v av => by
      obtain ⟨b, rfl, q⟩ := k v av
      exact ⟨b, true, rfl, rfl, by cases b <;> exact q⟩⟩
    exact .cmp (s_op1 (PE.mono (pe_cmpR op_notBl ha.a pe_bl (nomark _)) f) p1_notT) (pt_cmpR op_notBl ha.a pe_bl (nomark _)) (fun σ H Q h => f σ H Q (rd_op1 p1_notT σ H Q h)) rfl rfl rfl rfl rfl
theorem bo_of {m : E} {sc : Scope} {op : BoolOp} {l : List Expr} {pos : Pos} (h : ckE C m sc (.BoolOp op l pos) = true) : isBo m = true := by
  cases m <;> first | rfl | (simp [ckE] at h; done) | skip
  all_goals (rename_i x; cases x <;> simp [ckSrc] at h)
theorem sm1_ok {W : WX} {X : Cx} {sc : Scope} {x y : Expr} {a b : E} {apos cpos : Pos} {p : M1} (G : COk T W X C sc) (ha : Snd T W X x a) (hb : Snd T W X y b) (h0 : notSuper x = true) (hl : (apos.endLine == cpos.line) = true) : Snd T W X (.Call (.Attribute x (m1N p) apos) [y] [] cpos) (.sm1 p a b) := by
  refine .plain ?_ rfl rfl rfl rfl rfl rfl
  cases p
  · have p1 := @s1_join T
    rw [← G.K] at p1
    exact s_sm1 (pe_m1 PySem.F.slot_str_join PySem.F.type_str_join mt_join ha.a hb.a (star1 hb.st) (base_of h0) hl) p1
  · exact s_sm1 (pe_m1 PySem.F.slot_str_lstrip PySem.F.type_str_lstrip mt_lstripChars ha.a hb.a (star1 hb.st) (base_of h0) hl) s1_lstrip
  · exact s_sm1 (pe_m1 PySem.F.slot_str_split PySem.F.type_str_split mt_split ha.a hb.a (star1 hb.st) (base_of h0) hl) s1_split
  · exact s_sm1 (pe_m1 PySem.F.slot_str_find PySem.F.type_str_find mt_find ha.a hb.a (star1 hb.st) (base_of h0) hl) s1_find
  · exact s_sm1 (pe_m1 PySem.F.slot_str_endswith PySem.F.type_str_endswith mt_endswith ha.a hb.a (star1 hb.st) (base_of h0) hl) s1_endswith
  · exact s_sm1 (pe_m1 PySem.F.slot_str_removeprefix PySem.F.type_str_removeprefix mt_removeprefix ha.a hb.a (star1 hb.st) (base_of h0) hl) s1_rmpre
  · exact s_sm1 (pe_m1 PySem.F.slot_str_partition PySem.F.type_str_partition mt_partition ha.a hb.a (star1 hb.st) (base_of h0) hl) s1_part
mutual
theorem okE : ∀ (m : E) {W : WX} {X : Cx} {sc : Scope} {e : Expr}, COk T W X C sc → FnA T X C (callsE m) → ckE C m sc e = true → Snd T W X e m
  | .var i, W, X, sc, e, G, F, h => by
    simp only [ckE] at h
    split at h
    · obtain ⟨h1, h2, h3, h4⟩ := G.nm h
      exact ⟨sE_var h1 h2 h3 h4, sA_var h1 h2 h3 h4, fun _ => sT_val (sE_var h1 h2 h3 h4) (plainTest_ok rfl), (fun z => by cases z), rfl, rfl, rfl⟩
    · cases h
  | .int n, W, X, sc, e, G, F, h => by
    simp only [ckE] at h
    split at h
    · obtain rfl := of_decide_eq_true h
      exact .plain (sE_c pe_int (fun δ => rfl) fun S => .int _) rfl rfl rfl rfl rfl rfl
    · cases h
  | .str s, W, X, sc, e, G, F, h => by
    simp only [ckE] at h
    split at h
    · obtain rfl := of_decide_eq_true h
      exact .plain (sE_c pe_str (fun δ => rfl) fun S => .str _) rfl rfl rfl rfl rfl rfl
    · cases h
  | .bl b, W, X, sc, e, G, F, h => by
    simp only [ckE] at h
    split at h
    · obtain rfl := of_decide_eq_true h
      exact .plain (sE_c pe_bl (fun δ => rfl) fun S => .bl _) rfl rfl rfl rfl rfl rfl
    · cases h
  | .non, W, X, sc, e, G, F, h => by
    simp only [ckE] at h
    split at h
    · exact .plain (sE_c pe_non (fun δ => rfl) fun S => .non) rfl rfl rfl rfl rfl rfl
    · cases h
  | .gl _ d, W, X, sc, e, G, F, h => by
    simp only [ckE] at h
    split at h
    · simp only [Bool.and_eq_true, Bool.not_eq_true', List.any_eq_true, decide_eq_true_eq] at h
      obtain ⟨⟨h1, h2⟩, p, hp, rfl, h3⟩ := h
      obtain ⟨u, v, e1, e2, e3⟩ := G.gl p hp
      have := sameF_eq h3
      subst this
      exact .plain (sE_c (pe_glob (G.glo h1) e1 e2 h2) (fun δ => rfl) e3) rfl rfl rfl rfl rfl rfl
    · cases h
  | .dspc k i, W, X, sc, e, G, F, h => by
    simp only [ckE] at h
    split at h
    · simp only [Bool.and_eq_true, decide_eq_true_eq] at h
      obtain ⟨h1, rfl⟩ := h
      exact .plain (sE_dspc h1) rfl rfl rfl rfl rfl rfl
    · cases h
  | .fs es, W, X, sc, e, G, F, h => by
    simp only [ckE] at h
    split at h
    · exact .plain (sE_fs (okJ es G F h)) rfl rfl rfl rfl rfl rfl
    · cases h
  | .tup es, W, X, sc, e, G, F, h => by
    simp only [ckE] at h
    split at h
    · simp only [Bool.and_eq_true, decide_eq_true_eq] at h
      exact .plain (sE_tup (okEs es G F h.1).1 h.2) rfl rfl rfl rfl rfl rfl
    · cases h
  | .lst es, W, X, sc, e, G, F, h => by
    simp only [ckE] at h
    split at h
    · simp only [Bool.and_eq_true, decide_eq_true_eq] at h
      exact .plain (sE_lst (okEs es G F h.1).1 h.2) rfl rfl rfl rfl rfl rfl
    · cases h
  | .op1 p a, W, X, sc, e, G, F, h => by
    simp only [ckE] at h
    split at h
    · simp only [Bool.and_eq_true, decide_eq_true_eq] at h
      obtain ⟨rfl, h⟩ := h
      exact .plain (s_op1 (pe_un un_neg (okE a G F h).a) p1_neg) rfl rfl rfl rfl rfl rfl
    · simp only [Bool.and_eq_true, decide_eq_true_eq] at h
      obtain ⟨rfl, h⟩ := h
      exact .plain (s_op1 (pe_fmt (okE a G F h).a) p1_fmt) rfl rfl rfl rfl rfl rfl
    · simp only [Bool.and_eq_true] at h
      exact isN_ok h.1 (okE a G F h.2)
    · simp only [Bool.and_eq_true] at h
      exact isT_ok h.1 (okE a G F h.2)
    · simp only [Bool.and_eq_true, decide_eq_true_eq] at h
      obtain ⟨rfl, h⟩ := h
      have p1 := @p1_rev T
      rw [← G.K] at p1
      exact .plain (s_op1 (pe_revL (okE a G F h).a) p1) rfl rfl rfl rfl rfl rfl
    · simp only [Bool.and_eq_true] at h
      cases q : k1N p with
      | none => rw [q] at h; cases h.1
      | some nm =>
        rw [q] at h
        exact op1_call G q h.1 (okE a G F h.2)
    · cases h
  | .op2 p a b, W, X, sc, e, G, F, h => by
    simp only [ckE] at h
    split at h
    · simp only [Bool.and_eq_true, decide_eq_true_eq] at h
      exact bin_rule G h.1.1 (okE a G F.l h.1.2) (okE b G F.r h.2)
    · simp only [Bool.and_eq_true, decide_eq_true_eq] at h
      exact cmp_ok (cmp_rule G h.1.1).1 (cmp_rule G h.1.1).2 (okE a G F.l h.1.2) (okE b G F.r h.2)
    · simp only [Bool.and_eq_true, decide_eq_true_eq] at h
      obtain ⟨⟨rfl, h1⟩, h2⟩ := h
      have ha := okE a G F.l h1
      have hb := okE b G F.r h2
      have p1 := @p2_idx T
      rw [← G.K] at p1
      exact .plain (s_op2 (pe_ix ix_seq ha.a hb.a (plainIx_of hb.sl)) p1) rfl rfl rfl rfl rfl rfl
    · simp only [Bool.and_eq_true, decide_eq_true_eq] at h
      obtain ⟨⟨⟨rfl, h0⟩, h1⟩, h2⟩ := h
      have ha := okE a G F.l h1
      have hb := okE b G F.r h2
      obtain ⟨rfl, hg, hm⟩ := G.blt h0
      exact .plain (s_op2 (pe_callB (call_max2 G.calm) hg hm PyProof.Rows.boot_max (pa_cons ha.a (pa_cons hb.a pa_nil (star1 hb.st)) (star1 ha.st)) (by decide +kernel) (by decide +kernel) (star1 ha.st) (by rw [star1 hb.st]; rfl)) p2_max) rfl rfl rfl rfl rfl rfl
    · cases h
  | .sm1 p a b, W, X, sc, e, G, F, h => by
    simp only [ckE] at h
    split at h
    · simp only [Bool.and_eq_true, decide_eq_true_eq] at h
      obtain ⟨⟨⟨⟨rfl, h0⟩, hl⟩, h1⟩, h2⟩ := h
      have ha := okE a G F.l h1
      have hb := okE b G F.r h2
      exact sm1_ok G ha hb h0 hl
    · cases h
  | .slc a lo hi, W, X, sc, e, G, F, h => by
    simp only [ckE] at h
    split at h
    · simp only [Bool.and_eq_true] at h
      exact .plain (sE_slc G.K (okE a G F.l h.1.1).a (okO lo G F.r.l h.1.2) (okO hi G F.r.r h.2)) rfl rfl rfl rfl rfl rfl
    · cases h
  | .isi a one ks, W, X, sc, e, G, F, h => by
    simp only [ckE] at h
    split at h
    · simp only [Bool.and_eq_true] at h
      obtain ⟨⟨⟨rfl, h0⟩, h1⟩, h2⟩ := h
      have ha := okE a G F h2
      obtain ⟨rfl, hg, hm⟩ := G.blt h0
      split at h1
      · rename_i kk
        simp only [Bool.and_eq_true] at h1
        obtain ⟨rfl, hg', hm'⟩ := G.blt h1.2
        have hk : ∀ c, kk ≠ .cls c := fun c q => by subst q; cases h1.1
        exact .plain (sE_isi1 G.K hk hg hm hg' hm' ha.a ha.st) rfl rfl rfl rfl rfl rfl
      · cases h1
    · simp only [Bool.and_eq_true, decide_eq_true_eq] at h
      obtain ⟨⟨⟨⟨⟨⟨h9, h0⟩, h1⟩, h3⟩, h4⟩, h5⟩, h2⟩ := h
      have ho : one = false := by cases one <;> first | rfl | cases h9
      subst ho
      have ha := okE a G F h2
      obtain ⟨rfl, hg, hm⟩ := G.blt h0
      refine .plain (sE_isiT G.K (fun x hx => G.sr.glo x hx) ?_ h1 h3 hg hm ha.a ha.st h4) rfl rfl rfl rfl rfl rfl
      intro k hk
      have := List.all_eq_true.mp h5 k hk
      exact G.bl _ (of_decide_eq_true this)
    · cases h
  | .and a b, W, X, sc, e, G, F, h => by
    simp only [ckE] at h
    split at h
    · simp only [Bool.and_eq_true] at h
      have ha := okE a G F.l h.1
      have hb := okE b G F.r h.2
      have bo := bo_of h.2
      refine ⟨sE_and ha.p hb.p, sA_of (sE_and ha.p hb.p) rfl, fun z => ?_, fun _ z => ?_, rfl, rfl, rfl⟩
      · simp only [tstOk, Bool.and_eq_true] at z
        exact (sT_and (ha.t z.1) (hb.w bo z.2)).pt
      · simp only [tstOk, Bool.and_eq_true] at z
        exact sT_and (ha.t z.1) (hb.w bo z.2)
    · cases h
  | .or a b, W, X, sc, e, G, F, h => by
    simp only [ckE] at h
    split at h
    · simp only [Bool.and_eq_true] at h
      have ha := okE a G F.l h.1
      have hb := okE b G F.r h.2
      have bo := bo_of h.2
      refine ⟨sE_or ha.p hb.p, sA_of (sE_or ha.p hb.p) rfl, fun z => ?_, fun _ z => ?_, rfl, rfl, rfl⟩
      · simp only [tstOk, Bool.and_eq_true] at z
        exact (sT_or (ha.t z.1) (hb.w bo z.2)).pt
      · simp only [tstOk, Bool.and_eq_true] at z
        exact sT_or (ha.t z.1) (hb.w bo z.2)
    · cases h
  | .one a, W, X, sc, e, G, F, h => by
    simp only [ckE] at h
    split at h
    · rename_i op x pp
      have ha := okE a G F h
      have w : tstOk (.one a) = true → PW X (.BoolOp op [x] pp) (rdT T W (.one a)) := fun z => by
        simp only [tstOk] at z
        cases op with
        | And => exact sT_and1 (ha.t z)
        | Or => exact sT_or1 (ha.t z)
      exact ⟨sE_one ha.p, sA_of (sE_one ha.p) rfl, fun z => (w z).pt, fun _ z => w z, rfl, rfl, rfl⟩
    · cases h
  | .not a, W, X, sc, e, G, F, h => by
    simp only [ckE] at h
    split at h
    · have ha := okE a G F h
      exact ⟨sE_not ha.p, sA_of (sE_not ha.p) rfl, fun z => sT_not (ha.t (by simpa only [tstOk] using z)), (fun z => by cases z), rfl, rfl, rfl⟩
    · cases h
  | .ife c a b, W, X, sc, e, G, F, h => by
    simp only [ckE] at h
    split at h
    · simp only [Bool.and_eq_true] at h
      have hc := okE c G F.l h.1.1.2
      have ha := okE a G F.r.l h.1.2
      have hb := okE b G F.r.r h.2
      exact ⟨sE_ife (hc.t h.1.1.1) ha.p hb.p, sA_of (sE_ife (hc.t h.1.1.1) ha.p hb.p) rfl, (fun z => by cases z), (fun z => by cases z), rfl, rfl, rfl⟩
    · cases h
  | .chn p q a b c, W, X, sc, e, G, F, h => by
    simp only [ckE] at h
    split at h
    · simp only [Bool.and_eq_true, decide_eq_true_eq] at h
      exact chn_ok G h.1.1.1.1 h.1.1.1.2 (okE a G F.l h.1.1.2) (okE b G F.r.l h.1.2) (okE c G F.r.r h.2)
    · cases h
  | .fld _ _ _, W, X, sc, e, G, F, h => by simp only [ckE] at h; cases h
  | .pop i, W, X, sc, e, G, F, h => by
    simp only [ckE] at h
    split at h
    · simp only [Bool.and_eq_true, decide_eq_true_eq] at h
      obtain ⟨⟨rfl, h1⟩, h2⟩ := h
      obtain ⟨n1, n2, n3, n4⟩ := G.nm h1
      exact .plain (sE_pop G.K n1 n2 n3 n4 h2) rfl rfl rfl rfl rfl rfl
    · cases h
  | .call f as, W, X, sc, e, G, F, h => by
    simp only [ckE] at h
    split at h
    · rename_i x np xs pos
      simp only [Bool.and_eq_true, decide_eq_true_eq] at h
      obtain ⟨⟨⟨h1, h0⟩, h2⟩, h3⟩ := h
      obtain ⟨y, lv, fa, e1, e2, e3, e4, e5, e6⟩ := F f List.mem_cons_self
      rw [h1] at e1
      cases e1
      have h0 : C.kws f.id = [] := List.isEmpty_iff.mp h0
      rw [h0] at e2
      have e2 := fnr_of e2
      obtain ⟨pa, st⟩ := okAs as G (fun g hg => F g (List.mem_cons_of_mem _ hg)) h3
      cases xs with
      | nil =>
        cases as with
        | nil => exact .plain (sE_call0 e2 e3 (G.glo h2) e4 e5 G.tk e6) rfl rfl rfl rfl rfl rfl
        | ev _ _ => simp [ckAs] at h3
        | pk _ _ => simp [ckAs] at h3
      | cons y ys => exact .plain (sE_call e2 e3 (G.glo h2) e4 e5 G.tk pa e6 st) rfl rfl rfl rfl rfl rfl
    · cases h
  | .callk f as kas, W, X, sc, e, G, F, h => by
    simp only [ckE] at h
    split at h
    · rename_i x np y xs ks pos
      simp only [Bool.and_eq_true, decide_eq_true_eq] at h
      obtain ⟨⟨⟨h1, h2⟩, h3⟩, h4⟩ := h
      obtain ⟨y', lv, fa, e1, e2, e3, e4, e5, e6⟩ := F f List.mem_cons_self
      rw [h1] at e1
      cases e1
      have Fr : FnA T X C (callsAs as ++ callsAs kas) := fun g hg => F g (List.mem_cons_of_mem _ hg)
      obtain ⟨pa, st⟩ := okAs as G Fr.l h3
      obtain ⟨pk, q1, q2⟩ := okKs kas G Fr.r h4
      exact .plain (sE_callk e2 e3 (G.glo h2) e4 e5 G.tk pa pk q1 q2 e6 st) rfl rfl rfl rfl rfl rfl
    · cases h
  | .comp tgs src cond elt, W, X, sc, e, G, F, h => by
    simp only [ckE] at h
    split at h
    · simp only [Bool.and_eq_true, decide_eq_true_eq] at h
      obtain ⟨⟨⟨⟨⟨⟨rfl, h1⟩, h2⟩, h3⟩, h4⟩, h5⟩, h6⟩ := h
      obtain ⟨hi, hz⟩ := okSrc src G F.l h1
      have B := mkComp (elt := elt) (cond := cond) G h2 h3 h4 hi hz (fun X' G' k => okC cond G' (k _ F.r.l) h5) (fun X' G' k => (okE elt G' (k _ F.r.r) h6).p)
      exact .plain (sE_comp G.calm G.nd B.hi B.ok B.ho B.hgo B.hg B.ht B.he B.hs) rfl rfl rfl rfl rfl rfl
    · cases h
theorem okEs : ∀ (ms : Es) {W : WX} {X : Cx} {sc : Scope} {es : List Expr}, COk T W X C sc → FnA T X C (callsEs ms) → ckEs C ms sc es = true → PA X es (rdEs T W ms) ∧ es.all notStar = true
  | .nil, W, X, sc, [], G, F, h => ⟨sA_nil, rfl⟩
  | .nil, W, X, sc, _ :: _, G, F, h => by simp [ckEs] at h
  | .cons m ms, W, X, sc, [], G, F, h => by simp [ckEs] at h
  | .cons m ms, W, X, sc, e :: es, G, F, h => by
    simp only [ckEs, Bool.and_eq_true] at h
    have a := okE m G F.l h.1
    have b := okEs ms G F.r h.2
    exact ⟨sA_cons a.p b.1 a.st, hst_cons a.st b.2⟩
theorem okJ : ∀ (ms : Es) {W : WX} {X : Cx} {sc : Scope} {es : List Expr}, COk T W X C sc → FnA T X C (callsEs ms) → ckEs C ms sc es = true → PJ X es (tsOf T W ms)
  | .nil, W, X, sc, [], G, F, h => .nil
  | .nil, W, X, sc, _ :: _, G, F, h => by simp [ckEs] at h
  | .cons m ms, W, X, sc, [], G, F, h => by simp [ckEs] at h
  | .cons m ms, W, X, sc, e :: es, G, F, h => by
    simp only [ckEs, Bool.and_eq_true] at h
    exact .cons (okE m G F.l h.1).p (okJ ms G F.r h.2)
theorem okO : ∀ (m : OE) {W : WX} {X : Cx} {sc : Scope} {e : Option Expr}, COk T W X C sc → FnA T X C (callsO m) → ckO C m sc e = true → PO X e (rdO T W m)
  | .none, W, X, sc, none, G, F, h => sO_none
  | .none, W, X, sc, some _, G, F, h => by simp [ckO] at h
  | .some m, W, X, sc, none, G, F, h => by simp [ckO] at h
  | .some m, W, X, sc, some e, G, F, h => by
    simp only [ckO] at h
    exact sO_some (okE m G F h).p
theorem okC : ∀ (m : OE) {X : Cx} {sc : Scope} {es : List Expr}, COk T W0 X C sc → FnA T X C (callsO m) → ckC C m sc es = true → PTs X es (rdC0 T m)
  | .none, X, sc, [], G, F, h => pts_nil
  | .none, X, sc, _ :: _, G, F, h => by simp [ckC] at h
  | .some m, X, sc, [], G, F, h => by simp [ckC] at h
  | .some m, X, sc, [e], G, F, h => by
    simp only [ckC, Bool.and_eq_true] at h
    exact pts_one ((okE m G F h.2).t h.1)
  | .some m, X, sc, _ :: _ :: _, G, F, h => by simp [ckC] at h
theorem okAs : ∀ (ms : As) {W : WX} {X : Cx} {sc : Scope} {es : List Expr}, COk T W X C sc → FnA T X C (callsAs ms) → ckAs C ms sc es = true → PA X es (rdAs T W ms) ∧ es.all notStar = true
  | .nil, W, X, sc, [], G, F, h => ⟨sAs_nil, rfl⟩
  | .nil, W, X, sc, _ :: _, G, F, h => by simp [ckAs] at h
  | .ev m ms, W, X, sc, [], G, F, h => by simp [ckAs] at h
  | .ev m ms, W, X, sc, e :: es, G, F, h => by
    simp only [ckAs, Bool.and_eq_true] at h
    have a := okE m G F.l h.1
    have b := okAs ms G F.r h.2
    exact ⟨sAs_ev a.p b.1 a.st, hst_cons a.st b.2⟩
  | .pk i ms, W, X, sc, [], G, F, h => by simp [ckAs] at h
  | .pk i ms, W, X, sc, e :: es, G, F, h => by
    cases e <;> first | (simp [ckAs] at h; done) | skip
    simp only [ckAs, Bool.and_eq_true] at h
    obtain ⟨h1, h2, h3, h4⟩ := G.nm h.1
    have b := okAs ms G F h.2
    exact ⟨sAs_pk h1 h2 h3 h4 b.1, hst_cons rfl b.2⟩
theorem okKs : ∀ (ms : As) {W : WX} {X : Cx} {sc : Scope} {es : List Keyword} {ks : List Str}, COk T W X C sc → FnA T X C (callsAs ms) → ckKs C ms sc es ks = true → PK X es (rdAs T W ms) ∧ es.map (·.arg) = ks.map some ∧ ∀ δ ys δ', denAs ms δ = .ok ys δ' → ys.length = ks.length
  | .nil, W, X, sc, [], [], G, F, h => ⟨sKs_nil, rfl, fun δ ys δ' e => by simp only [denAs] at e; cases e; rfl⟩
  | .nil, W, X, sc, [], _ :: _, G, F, h => by simp [ckKs] at h
  | .nil, W, X, sc, _ :: _, _, G, F, h => by simp [ckKs] at h
  | .pk _ _, W, X, sc, _, _, G, F, h => by simp [ckKs] at h
  | .ev m ms, W, X, sc, [], _, G, F, h => by simp [ckKs] at h
  | .ev m ms, W, X, sc, ⟨none, _, _⟩ :: _, _, G, F, h => by simp [ckKs] at h
  | .ev m ms, W, X, sc, ⟨some _, _, _⟩ :: _, [], G, F, h => by simp [ckKs] at h
  | .ev m ms, W, X, sc, ⟨some k, e, p⟩ :: es, k' :: ks, G, F, h => by
    simp only [ckKs, Bool.and_eq_true, decide_eq_true_eq] at h
    obtain ⟨⟨rfl, h1⟩, h2⟩ := h
    have a := okE m G F.l h1
    obtain ⟨b, q1, q2⟩ := okKs ms G F.r h2
    refine ⟨sKs_ev a.p b, by simp only [List.map_cons, q1], fun δ ys δ' e => ?_⟩
    simp only [denAs] at e
    cases e1 : den m δ with
    | bad => rw [e1] at e; cases e
    | ex x δ1 => rw [e1] at e; cases e
    | ok r δ1 =>
      rw [e1] at e
      simp only [Out.bind] at e
      cases e2 : frz r δ1 with
      | bad => rw [e2] at e; cases e
      | ex x δ1 => rw [e2] at e; cases e
      | ok x δ2 =>
        rw [e2] at e
        simp only [Out.bind] at e
        cases e3 : denAs ms δ2 with
        | bad => rw [e3] at e; cases e
        | ex x δ1 => rw [e3] at e; cases e
        | ok zs δ3 =>
          rw [e3] at e
          cases e
          simp [q2 _ _ _ e3]
theorem okSrc : ∀ (m : Src) {W : WX} {X : Cx} {sc : Scope} {tg e : Expr}, COk T W X C sc → FnA T X C (callsSrc m) → ckSrc C m sc tg e = true → PI X tg e (rdSrc T W m) ∧ notSet e = true
  | .seq m, W, X, sc, tg, e, G, F, h => by
    simp only [ckSrc] at h
    have a := okE m G F h
    exact ⟨sI_seq G.K a.a, a.z⟩
  | .rng1 m, W, X, sc, tg, e, G, F, h => by
    simp only [ckSrc] at h
    split at h
    · simp only [Bool.and_eq_true] at h
      have a := okE m G F h.2
      obtain ⟨rfl, hg, hm⟩ := G.blt h.1
      exact ⟨sI_rng1 hg hm a.p a.st, rfl⟩
    · cases h
  | .rng2 m m2, W, X, sc, tg, e, G, F, h => by
    simp only [ckSrc] at h
    split at h
    · simp only [Bool.and_eq_true] at h
      have a := okE m G F.l h.1.2
      have b := okE m2 G F.r h.2
      obtain ⟨rfl, hg, hm⟩ := G.blt h.1.1
      exact ⟨sI_rng2 hg hm a.p b.p a.st b.st, rfl⟩
    · cases h
  | .zip m m2, W, X, sc, tg, e, G, F, h => by
    simp only [ckSrc] at h
    split at h
    · simp only [Bool.and_eq_true] at h
      have a := okE m G F.l h.1.2
      have b := okE m2 G F.r h.2
      obtain ⟨rfl, hg, hm⟩ := G.blt h.1.1.2
      cases tg <;> first | cases h.1.1.1 | skip
      exact ⟨sI_zip G.K hg hm a.p b.p a.st b.st, rfl⟩
    · cases h
end
end
end Z

set_option Elab.async false
set_option linter.all false
set_option maxHeartbeats 1000000
/-! ZSnd2: the check of statements, sound. -/
namespace Z
open PySem L2
/-- name = [..] on one line -/
def swB (sc : Scope) (x : Str) (p : Pos) : Expr → Bool
  | .ListComp _ _ scope cpos => decide (sc.names.lookup x = some .local) && (p.line == cpos.line) && !(scope.names.any fun (n, k) => n == x && (k == .local || k == .cell))
  | _ => false
/-- name = [..], the name a cell -/
def swC (sc : Scope) (x : Str) : Expr → Bool
  | .ListComp _ _ _ _ => decide (sc.names.lookup x = some .cell)
  | _ => false
theorem swC_of {x : Str} {v : Expr} {p : Pos} {l : Nat} {env : Env} {sc : Scope} (h : swC sc x v = true) (hc : sc.names.lookup x = some .cell → env.scope.names.lookup x = some .cell) : swapsWith v (some (.Name x p)) l env = pure false := by
  cases v <;> first | cases h | skip
  have k : env.kindOf x = some .cell := hc (of_decide_eq_true h)
  unfold swapsWith
  simp only [k]
  have e : (some NameKind.cell == some NameKind.local) = false := rfl
  simp only [e, Bool.and_false, Bool.false_and]
mutual
def ckS (C : Cd) : St1 → Scope → Stmt → Bool
  | .set i m, sc, st => match st with
    | .Assign [.Name x p] v _ => decide (C.N[i]? = some x) && locB sc x && ckE C m sc v && (notComp v || swB sc x p v || swC sc x v)
    | _ => false
  | .unp is m, sc, st => match st with
    | .Assign [.Tuple es _ _] v _ => decide (is.length ≠ 1) && chkTg C.N (locB sc) es is && ckE C m sc v && notComp v && notTupE v
    | _ => false
  | .unps is k m, sc, st => match st with
    | .Assign [.Tuple es _ _] v _ => chkTgS C.N (locB sc) es is k && ckE C m sc v && notComp v && notTupE v
    | _ => false
  | .app i m, sc, st => match st with
    | .Expr (.Call (.Attribute (.Name x _) f apos) [v] [] cpos) _ => decide (f = "append") && nmB C sc i x && (apos.endLine == cpos.line) && ckE C m sc v
    | _ => false
  | .seti i k m, sc, st => match st with
    | .Assign [.Subscript (.Name x _) ke _] v _ => nmB C sc i x && ckE C k sc ke && ckE C m sc v && notComp v
    | _ => false
  | .setf _ _ _ _, _, _ => false
  | .expr m, sc, st => match st with
    | .Expr v _ => ckE C m sc v && notComp v
    | _ => false
  | .ife c a b, sc, st => match st with
    | .If ce as bs _ => tstOk c && ckE C c sc ce && ckSs C a sc as && ckSs C b sc bs
    | _ => false
  | .for_ tg src body, sc, st => match st with
    | .For tge iter bs [] _ => ckTg C sc tge tg && ckSrc C src sc tge iter && ckSs C body sc bs
    | _ => false
  | .while_ c body, sc, st => match st with
    | .While ce bs [] _ => tstOk c && ckE C c sc ce && ckSs C body sc bs
    | _ => false
  | .ret m, sc, st => match st with
    | .Return (some v) _ => ckE C m sc v
    | _ => false
  | .retv i, sc, st => match st with
    | .Return (some (.Name x _)) _ => nmB C sc i x
    | _ => false
  | .retn, _, st => match st with
    | .Return none _ => true
    | _ => false
  | .brk, _, st => match st with
    | .Break _ => true
    | _ => false
  | .cont, _, st => match st with
    | .Continue _ => true
    | _ => false
  | .pass, _, st => match st with
    | .Pass _ => true
    | _ => false
def ckSs (C : Cd) : Sts → Scope → List Stmt → Bool
  | .nil, _, [] => true
  | .cons m ms, sc, s :: ss => ckS C m sc s && ckSs C ms sc ss
  | _, _, _ => false
end
mutual
def callsS : St1 → List Fn
  | .set _ m => callsE m
  | .unp _ m => callsE m
  | .unps _ _ m => callsE m
  | .app _ m => callsE m
  | .seti _ k m => callsE k ++ callsE m
  | .setf _ _ _ m => callsE m
  | .expr m => callsE m
  | .ife c a b => callsE c ++ (callsSs a ++ callsSs b)
  | .for_ _ src body => callsSrc src ++ callsSs body
  | .while_ c body => callsE c ++ callsSs body
  | .ret m => callsE m
  | .retv _ => []
  | .retn => []
  | .brk => []
  | .cont => []
  | .pass => []
def callsSs : Sts → List Fn
  | .nil => []
  | .cons s r => callsS s ++ callsSs r
end
section
variable {T : Tab} {C : Cd}
theorem setcomp_ok {W : WX} {X : Cx} {sc : Scope} {i : Nat} {x : Str} {p pos : Pos} {m : E} {v : Expr} (G : COk T W X C sc) (F : FnA T X C (callsE m)) (h1 : C.N[i]? = some x) (h : ckE C m sc v = true) (hs : swB sc x p v = true) : PS X (.Assign [.Name x p] v pos) (rdS T W (.set i m)) := by
  cases v <;> first | cases hs | skip
  rename_i y gs scope cpos
  simp only [swB, Bool.and_eq_true, decide_eq_true_eq] at hs
  have hm : ∃ tgs src cond elt, m = .comp tgs src cond elt := by
    cases m <;> first | exact ⟨_, _, _, _, rfl⟩ | (simp [ckE] at h; done)
  obtain ⟨tgs, src, cond, elt, rfl⟩ := hm
  simp only [ckE] at h
  split at h
  · rename_i y' tg iter ifs ia scope' cpos' he
    injection he with e1 e2 e3 e4
    subst e1 e2 e3 e4
    simp only [Bool.and_eq_true, decide_eq_true_eq] at h
    obtain ⟨⟨⟨⟨⟨⟨rfl, g1⟩, g2⟩, g3⟩, g4⟩, g5⟩, g6⟩ := h
    obtain ⟨hi, hz⟩ := okSrc src G F.l g1
    have B := mkComp (elt := elt) (cond := cond) G g2 g3 g4 hi hz (fun X' G' k => okC cond G' (k _ F.r.l) g5) (fun X' G' k => (okE elt G' (k _ F.r.r) g6).p)
    have hl : X.env.scope.names.lookup x = some .local := G.sr.loc x hs.1.1
    have ha : (scope.names.any fun (n, k) => n == x && (k == .local || k == .cell)) = false := by
      have := hs.2
      simpa using this
    exact sS_setcomp G.calm G.nd (by rw [G.N]; exact h1) hl (sw_true G.kind hl hs.1.2 ha) B.hi B.ok B.ho B.hgo B.hg B.ht B.he B.hs
  · cases h
mutual
theorem okS : ∀ (m : St1) {W : WX} {X : Cx} {sc : Scope} {st : Stmt}, COk T W X C sc → FnA T X C (callsS m) → ckS C m sc st = true → PS X st (rdS T W m)
  | .set i m, W, X, sc, st, G, F, h => by
    simp only [ckS] at h
    split at h
    · simp only [Bool.and_eq_true, decide_eq_true_eq, Bool.or_eq_true] at h
      rename_i x _ _ _
      obtain ⟨⟨⟨h1, h2⟩, h3⟩, h4⟩ := h
      rcases h4 with (h4 | h4) | h4
      · exact sS_set G.nd (by rw [G.N]; exact h1) (G.loc h2).1 (okE m G F h3).p (swap_of h4) (G.loc h2).2
      · exact setcomp_ok G F h1 h3 h4
      · exact sS_set G.nd (by rw [G.N]; exact h1) (G.loc h2).1 (okE m G F h3).p (swC_of h4 fun z => (G.sr.cel x z).1) (G.loc h2).2
    · cases h
  | .unp is m, W, X, sc, st, G, F, h => by
    simp only [ckS] at h
    split at h
    · rename_i es kk p1 v p2
      simp only [Bool.and_eq_true, decide_eq_true_eq] at h
      obtain ⟨⟨⟨⟨h1, h2⟩, h3⟩, h4⟩, h5⟩ := h
      have hg := pg_many (k := kk) (pos := p1) G.calm G.nd (fun x => G.loc) (by rw [G.N]; exact h2)
      rw [G.K] at hg
      exact sS_unp hg (tg_tup is h1) h1 (okE m G F h3).p h4 h5
    · cases h
  | .unps is k m, W, X, sc, st, G, F, h => by
    simp only [ckS] at h
    split at h
    · rename_i es kk p1 v p2
      simp only [Bool.and_eq_true, decide_eq_true_eq] at h
      obtain ⟨⟨⟨h2, h3⟩, h4⟩, h5⟩ := h
      obtain ⟨g1, g2, g3, g4⟩ := chkTgS_ok (k := k) G.nd (fun x => G.loc) (by rw [G.N]; exact h2)
      have hg := pg_star (k := kk) (pos := p1) G.calm g1 g2 g3 g4
      rw [G.K] at hg
      exact sS_unps hg (okE m G F h3).p h4 h5
    · cases h
  | .app i m, W, X, sc, st, G, F, h => by
    simp only [ckS] at h
    split at h
    · simp only [Bool.and_eq_true, decide_eq_true_eq] at h
      obtain ⟨⟨⟨rfl, h2⟩, h3⟩, h4⟩ := h
      obtain ⟨n1, n2, n3, n4⟩ := G.nm h2
      have a := okE m G F h4
      exact sS_app n1 n2 n3 n4 a.p a.st h3
    · cases h
  | .seti i k m, W, X, sc, st, G, F, h => by
    simp only [ckS] at h
    split at h
    · simp only [Bool.and_eq_true] at h
      obtain ⟨⟨⟨h2, h3⟩, h4⟩, h5⟩ := h
      obtain ⟨n1, n2, n3, n4⟩ := G.nm h2
      have a := okE k G F.l h3
      exact sS_seti n1 n2 n3 n4 (okE m G F.r h4).p a.p h5 a.sl
    · cases h
  | .setf _ _ _ _, W, X, sc, st, G, F, h => by simp only [ckS] at h; cases h
  | .expr m, W, X, sc, st, G, F, h => by
    simp only [ckS] at h
    split at h
    · simp only [Bool.and_eq_true] at h
      exact sS_expr (okE m G F h.1).p (swap_of h.2)
    · cases h
  | .ife c a b, W, X, sc, st, G, F, h => by
    simp only [ckS] at h
    split at h
    · simp only [Bool.and_eq_true] at h
      exact sS_ife ((okE c G F.l h.1.1.2).t h.1.1.1) (okSs a G F.r.l h.1.2) (okSs b G F.r.r h.2)
    · cases h
  | .for_ tg src body, W, X, sc, st, G, F, h => by
    simp only [ckS] at h
    split at h
    · simp only [Bool.and_eq_true] at h
      obtain ⟨hi, hz⟩ := okSrc src G F.l h.1.2
      exact sS_for G.po G.calm hi (tg_ok G h.1.1).1 (tg_ok G h.1.1).2 (okSs body G F.r h.2) (fold_of hz)
    · cases h
  | .while_ c body, W, X, sc, st, G, F, h => by
    simp only [ckS] at h
    split at h
    · simp only [Bool.and_eq_true] at h
      exact sS_while G.po ((okE c G F.l h.1.2).t h.1.1) (okSs body G F.r h.2)
    · cases h
  | .ret m, W, X, sc, st, G, F, h => by
    simp only [ckS] at h
    split at h
    · exact sS_ret (okE m G F h).p
    · cases h
  | .retv i, W, X, sc, st, G, F, h => by
    simp only [ckS] at h
    split at h
    · obtain ⟨n1, n2, n3, n4⟩ := G.nm h
      exact sS_retv n1 n2 n3 n4
    · cases h
  | .retn, W, X, sc, st, G, F, h => by
    simp only [ckS] at h
    split at h
    · exact sS_retn
    · cases h
  | .brk, W, X, sc, st, G, F, h => by
    simp only [ckS] at h
    split at h
    · exact sS_brk
    · cases h
  | .cont, W, X, sc, st, G, F, h => by
    simp only [ckS] at h
    split at h
    · exact sS_cont
    · cases h
  | .pass, W, X, sc, st, G, F, h => by
    simp only [ckS] at h
    split at h
    · exact sS_pass
    · cases h
theorem okSs : ∀ (m : Sts) {W : WX} {X : Cx} {sc : Scope} {ss : List Stmt}, COk T W X C sc → FnA T X C (callsSs m) → ckSs C m sc ss = true → PSs X ss (rdSs T W m)
  | .nil, W, X, sc, [], G, F, h => sSs_nil
  | .nil, W, X, sc, _ :: _, G, F, h => by simp [ckSs] at h
  | .cons m ms, W, X, sc, [], G, F, h => by simp [ckSs] at h
  | .cons m ms, W, X, sc, s :: ss, G, F, h => by
    simp only [ckSs, Bool.and_eq_true] at h
    exact sSs_cons (okS m G F.l h.1) (okSs ms G F.r h.2)
end
end
end Z

set_option Elab.async false
set_option linter.all false
set_option maxHeartbeats 1000000
/-! ZDef: a def keeps the promise that its small text says. -/
namespace Z
open PySem L2
section
variable {T : Tab} {P : Program} {w : World} {K : PySem.W.Frag} {mg : Str → Option Value} {base : Heap}
/-- outsOf, place by place -/
theorem outsOf_len : ∀ {xs : List (Md × D)} {δ : DSt} {i : Nat} {outs : List D}, outsOf δ xs i = some outs → outs.length = xs.length
  | [], δ, i, outs, h => by simp only [outsOf] at h; cases h; rfl
  | (.fz, d) :: r, δ, i, outs, h => by
    simp only [outsOf] at h
    cases q : outsOf δ r (i + 1) with
    | none => rw [q] at h; cases h
    | some ds => rw [q] at h; cases h; simp [outsOf_len q]
  | (.ow, d) :: r, δ, i, outs, h => by
    simp only [outsOf] at h
    split at h
    · rename_i q; cases h; simp [outsOf_len q]
    · cases h
  | (.io, d) :: r, δ, i, outs, h => by
    simp only [outsOf] at h
    split at h
    · rename_i q; cases h; simp [outsOf_len q]
    · cases h
  | (.lk, d) :: r, δ, i, outs, h => by
    simp only [outsOf] at h
    split at h
    · rename_i q; cases h; simp [outsOf_len q]
    · cases h
theorem outsOf_get : ∀ {xs : List (Md × D)} {δ : DSt} {i : Nat} {outs : List D} {k : Nat} {m : Md} {d o : D}, outsOf δ xs i = some outs → xs[k]? = some (m, d) → outs[k]? = some o → (m = .fz ∧ o = d) ∨ (m ≠ .fz ∧ slotD δ (i + k) = some (.io, o))
  | [], δ, i, outs, k, m, d, o, h, e, _ => by simp at e
  | (m0, d0) :: r, δ, i, outs, k, m, d, o, h, e, e' => by
    have step : ∀ {ds : List D} {x : D}, outsOf δ r (i + 1) = some ds → outs = x :: ds → ((m0 = .fz ∧ x = d0) ∨ (m0 ≠ .fz ∧ slotD δ i = some (.io, x))) → (m = .fz ∧ o = d) ∨ (m ≠ .fz ∧ slotD δ (i + k) = some (.io, o)) := fun {ds x} q e0 hx => by
      subst e0
      cases k with
      | zero =>
        simp at e e'
        obtain ⟨rfl, rfl⟩ := e
        subst e'
        exact hx
      | succ k =>
        have := outsOf_get (k := k) q (by simpa using e) (by simpa using e')
        have e3 : i + (k + 1) = i + 1 + k := by omega
        rw [e3]
        exact this
    cases m0 with
    | fz =>
      simp only [outsOf] at h
      cases q : outsOf δ r (i + 1) with
      | none => rw [q] at h; cases h
      | some ds => rw [q] at h; cases h; exact step q rfl (.inl ⟨rfl, rfl⟩)
    | ow =>
      simp only [outsOf] at h
      split at h
      · rename_i q1 q; cases h; exact step q rfl (.inr ⟨by decide, q1⟩)
      · cases h
    | io =>
      simp only [outsOf] at h
      split at h
      · rename_i q1 q; cases h; exact step q rfl (.inr ⟨by decide, q1⟩)
      · cases h
    | lk =>
      simp only [outsOf] at h
      split at h
      · rename_i q1 q; cases h; exact step q rfl (.inr ⟨by decide, q1⟩)
      · cases h
theorem ext_get {α : Type} {l : List (Option α)} {n j : Nat} {y : α} (h : (l ++ List.replicate n none)[j]? = some (some y)) : l[j]? = some (some y) := by
  by_cases hj : j < l.length
  · rw [List.getElem?_append_left hj] at h; exact h
  · rw [List.getElem?_append_right (by omega), List.getElem?_replicate] at h
    split at h <;> cases h
theorem ext_of {α : Type} {l : List (Option α)} {n j : Nat} {y : α} (h : l[j]? = some (some y)) : (l ++ List.replicate n none)[j]? = some (some y) := by
  rw [List.getElem?_append_left (List.getElem?_eq_some_iff.mp h).1]
  exact h
/-- more slots, all empty -/
theorem Good.more {S H : Hp} {δ : DSt} {σ : L2.St} (G : Good T S H δ σ) (n : Nat) : Good T S H (δ ++ List.replicate n none) (σ ++ List.replicate n none) := by
  refine ⟨G.sub, by simp [G.len], fun i m d e => ?_, fun i j a ⟨m, d, x1, x2, x3⟩ ⟨m', d', y1, y2, y3⟩ => G.inj i j a ⟨m, d, ext_get x1, x2, ext_get x3⟩ ⟨m', d', ext_get y1, y2, ext_get y3⟩, G.nown⟩
  obtain ⟨v, e1, e2⟩ := G.slot i m d (ext_get e)
  exact ⟨v, ext_of e1, e2⟩
/-- behind a body: what the caller sees -/
theorem leave {S H S' H' : Hp} {xs : List (Md × D)} {vs : List V} {n : Nat} {δ' : DSt} {σ' : L2.St} {outs : List D} (hm : ∀ x ∈ xs, x.1 = Md.fz ∨ x.1 = Md.io) (G : Good T S H (xs.map some) (vs.map some)) (G' : Good T S' H' δ' σ')
    (s : Stp S H (xs.map some ++ List.replicate n none) (vs.map some ++ List.replicate n none) S' H' δ' σ') (ho : outsOf δ' xs 0 = some outs) :
    Good T S' H' (outX xs outs) (vs.map some) ∧ Stp S H (xs.map some) (vs.map some) S' H' (outX xs outs) (vs.map some) ∧ ∀ a, Owned (outX xs outs) (vs.map some) a → Owned δ' σ' a := by
  have hl := outsOf_len ho
  -- a slot of the caller's
  have sl : ∀ {j : Nat} {m : Md} {o : D}, (outX xs outs)[j]? = some (some (m, o)) → ∃ d, xs[j]? = some (m, d) ∧ ((m = .fz ∧ o = d) ∨ (m = .io ∧ δ'[j]? = some (some (.io, o)) ∧ σ'[j]? = (vs.map some)[j]?)) := fun {j m o} e => by
    unfold outX at e
    rw [List.getElem?_zipWith] at e
    cases q1 : xs[j]? with
    | none => rw [q1] at e; cases e
    | some x =>
      obtain ⟨m1, d1⟩ := x
      cases q2 : outs[j]? with
      | none => rw [q1, q2] at e; cases e
      | some o1 =>
        rw [q1, q2] at e
        cases e
        refine ⟨d1, rfl, ?_⟩
        rcases outsOf_get ho q1 q2 with ⟨z, w⟩ | ⟨z, w⟩
        · exact .inl ⟨z, w⟩
        · have hio : m1 = .io := (hm _ (List.mem_of_getElem? q1)).elim (fun y => absurd y z) id
          have w' := slotD_get w
          rw [Nat.zero_add] at w'
          refine .inr ⟨hio, w', ?_⟩
          obtain ⟨e1, _⟩ := s.kp j .io _ w' (.inl rfl)
          rw [e1]
          obtain ⟨v, ev, _⟩ := G.slot j m1 d1 (by rw [List.getElem?_map, q1]; rfl)
          rw [ext_of ev, ev]
  have own : ∀ {i : Nat} {a : Addr}, OwnAt (outX xs outs) (vs.map some) i a → OwnAt δ' σ' i a := fun {i a} ⟨m, o, e1, e2, e3⟩ => by
    obtain ⟨d, _, h⟩ := sl e1
    rcases h with ⟨z, _⟩ | ⟨z, w1, w2⟩
    · exact absurd z e2
    · exact ⟨.io, o, w1, by decide, by rw [w2]; exact e3⟩
  have mut' : ∀ {b : Addr}, MutA (outX xs outs) (vs.map some) b → MutA δ' σ' b := fun {b} ⟨j, m, o, e1, e2, e3⟩ => by
    obtain ⟨d, _, h⟩ := sl e1
    rcases h with ⟨z, _⟩ | ⟨z, w1, w2⟩
    · subst z; rcases e2 with z | z <;> cases z
    · exact ⟨j, .io, o, w1, .inr rfl, by rw [w2]; exact e3⟩
  have upM : ∀ {b : Addr}, MutA (xs.map some ++ List.replicate n none) (vs.map some ++ List.replicate n none) b → MutA (xs.map some) (vs.map some) b := fun {b} ⟨j, m, o, e1, e2, e3⟩ => ⟨j, m, o, ext_get e1, e2, ext_get e3⟩
  have upV : ∀ {b : Addr}, MovA (xs.map some ++ List.replicate n none) (vs.map some ++ List.replicate n none) b → MovA (xs.map some) (vs.map some) b := fun {b} ⟨j, o, e1, e3⟩ => ⟨j, o, ext_get e1, ext_get e3⟩
  refine ⟨⟨G'.sub, ?_, fun j m o e => ?_, fun i j a x y => G'.inj i j a (own x) (own y), G'.nown⟩, ⟨⟨s.ext, fun b o e k1 k2 => s.keep b o e (fun z => k1 (upM z)) fun c q => ⟨fun z => (k2 c q).1 (upM z), (k2 c q).2⟩, fun b o e => ?_, fun b h => (s.mu b (mut' h)).imp upM id, fun b ⟨j, o, e1, e3⟩ => ?_, s.dom⟩, fun j m o e h => ?_⟩, fun a ⟨i, h⟩ => ⟨i, own h⟩⟩
  · unfold outX
    rw [List.length_zipWith, hl, Nat.min_self]
    have := G.len
    simpa using this
  · obtain ⟨d, e1, h⟩ := sl e
    have ex : (xs.map some)[j]? = some (some (m, d)) := by rw [List.getElem?_map, e1]; rfl
    obtain ⟨v, q1, q2, q3⟩ := G.slot j m d ex
    rcases h with ⟨z, w⟩ | ⟨z, w1, w2⟩
    · subst w
      exact ⟨v, q1, fun z' => Rep.sub s.ext (q2 z'), fun z' => absurd z z'⟩
    · obtain ⟨v', r1, r2, r3⟩ := G'.slot j .io o w1
      rw [w2, q1] at r1
      cases r1
      exact ⟨v, q1, (fun z' => by rw [z] at z'; cases z'), fun _ => r3 (by decide)⟩
  · rcases s.new b o e with z | ⟨z | z | z, w⟩
    · exact .inl z
    · exact .inr ⟨.inl z, w⟩
    · exact .inr ⟨.inr (.inl (upV z)), w⟩
    · exact .inr ⟨.inr (.inr z), w⟩
  · obtain ⟨d, e2, h⟩ := sl e1
    rcases h with ⟨z, _⟩ | ⟨z, _⟩ <;> cases z
  · obtain ⟨d, e1, h'⟩ := sl e
    have ex : (xs.map some)[j]? = some (some (m, d)) := by rw [List.getElem?_map, e1]; rfl
    refine ⟨rfl, d, ex, fun z => ?_⟩
    subst z
    rcases h' with ⟨z, _⟩ | ⟨z, _⟩ <;> cases z
theorem spF_len {np n : Nat} {body : Sts} {vs : List V} {H : Hp} {Q : VK} {E : XK} (h : spF T (runF np n body) vs H Q E) : vs.length = np := by
  obtain ⟨S, xs, _, G, h⟩ := h
  have hl := G.len
  simp only [List.length_map] at hl
  rw [← hl]
  unfold runF at h
  by_cases hx : xs.length = np
  · exact hx
  · rw [if_neg hx] at h
    exact h.elim
/-- a def -/
theorem def_ok {x qual : Str} {st : Stmt} {f : Addr} {fd : FuncData} {N ps : List Str} {k : Nat} {C : Cd} {body : Sts} (F : Fun K x qual st f fd) (sc : FnScope N ps (defScope st)) (hT : K = T.K) (hN : N = C.N) (hbl : ∀ x ∈ C.bl, mg x = none) (hgl : ∀ p ∈ C.gls, ∃ u v, mg p.1 = some u ∧ RelV v u ∧ ∀ S, Rep T S v p.2)
    (hdbg : (C.N.all fun x => !(x == ("__debug__" : Str)) && !(x == ("__classdict__" : Str))) = true)
    (hfn : ∀ g ∈ callsSs body, ∃ y lv fa, C.nms[g.id]? = some y ∧ FnV P w K mg base (L2.CX P w) lv fa (spF T g.sem) (C.kws g.id) ∧ lv ≤ k ∧ mg y = some (.ref fa) ∧ PySem.W.keepIn K (.ref fa) = true ∧ (y == ("__debug__" : Str)) = false)
    (hck : ckSs C body (defScope st) (defBody st) = true) : FnOk P w K mg base (L2.CX P w) (k + 1) f fd ps (spF T (runF ps.length N.length body)) := by
  refine F.okX sc (fun vs H Q E h => spF_len h) fun cdv A outer s H vs Q E hr hsp => ?_
  have hlen : vs.length = ps.length := spF_len hsp
  obtain ⟨S, xs, hm, G, h⟩ := hsp
  have hxl : xs.length = ps.length := by
    have := G.len
    simp only [List.length_map] at this
    omega
  have ck : COk T (fun cls d _ H => E cls d H) (cxOf (L2.CX P w) P w K mg base N qual (defScope st) f cdv A outer s H E) C (defScope st) := {
    N := hN
    nd := sc.nd
    calm := rfl
    K := hT
    tk := takes_of rfl rfl rfl rfl
    po := passes_of rfl
    sr := ⟨fun x h => h, fun x h => ⟨h, rfl⟩, fun x h => .inr h, fun x h => h⟩
    kind := sc.kind
    bl := hbl
    gl := hgl
    un := by have := hr.un; show (A.deeper _).units + 100 < _; omega
    dbg := fun x hx => by
      have := List.all_eq_true.mp hdbg x hx
      simpa using this }
  have fn : FnA T (cxOf (L2.CX P w) P w K mg base N qual (defScope st) f cdv A outer s H E) C (callsSs body) := fun g hg => by
    obtain ⟨y, lv, fa, e1, e2, e3, e4, e5, e6⟩ := hfn g hg
    exact ⟨y, lv, fa, e1, e2, hr.mono e3, e4, e5, e6⟩
  refine ⟨_, okSs body ck fn hck, ?_⟩
  have es : L2.start N vs = vs.map some ++ List.replicate (N.length - ps.length) none := by
    unfold L2.start
    rw [hlen]
  rw [es]
  refine ⟨S, _, G.more _, ?_⟩
  unfold runF at h
  rw [if_pos hxl] at h
  have got : ∀ {δ' : DSt} {S' H' : Hp} {σ' : L2.St} {outs : List D}, outsOf δ' xs 0 = some outs → Good T S' H' δ' σ' → Stp S H (xs.map some ++ List.replicate (N.length - ps.length) none) (vs.map some ++ List.replicate (N.length - ps.length) none) S' H' δ' σ' → _ := fun ho G' s' => leave hm G G' s' ho
  cases q : denSs body (xs.map some ++ List.replicate (N.length - ps.length) none) with
  | nx δ' =>
    rw [q] at h
    simp only [] at h
    intro S' H' σ' G' s'
    cases q2 : outsOf δ' xs 0 with
    | none => rw [q2] at h; exact h.elim
    | some outs =>
      rw [q2] at h
      obtain ⟨a, b, _⟩ := got q2 G' s'
      exact h.2 .non S' H' a b .non
  | rt r δ' =>
    rw [q] at h
    simp only [] at h
    intro S' H' σ' v G' s' hr'
    cases q2 : outsOf δ' xs 0 with
    | none => rw [q2] at h; exact h.elim
    | some outs =>
      rw [q2] at h
      obtain ⟨a, b, c⟩ := got q2 G' s'
      refine h.2 v S' H' a b ?_
      cases r with
      | fz d => exact hr'
      | fr d =>
        obtain ⟨l, rfl, o, n, w⟩ := hr'
        refine ⟨l, rfl, o, fun z => n (c l z), ?_⟩
        rcases w with w | ⟨j, d', e1, e2⟩
        · exact .inl w
        · exact .inr ⟨j, d', ext_get e1, ext_get e2⟩
  | ex z δ' =>
    rw [q] at h
    simp only [] at h
    intro cls d S' H' σ' G' s' he
    cases q2 : outsOf δ' xs 0 with
    | none => rw [q2] at h; exact h.elim
    | some outs =>
      rw [q2] at h
      obtain ⟨a, b, _⟩ := got q2 G' s'
      exact h.2 cls d S' H' a b he
  | bk δ' => rw [q] at h; exact h.elim
  | ct δ' => rw [q] at h; exact h.elim
  | bad => rw [q] at h; exact h.elim
end
end Z

set_option Elab.async false
set_option linter.all false
set_option maxHeartbeats 1000000
/-! ZEnd: the law's end. -/
namespace Z
open PySem L2
theorem rep_lit {T : Tab} {S : Hp} {z : Str} {s : List Nat} (h : z = sx s) : Rep T S (.str z) (.str s) := by rw [h]; exact .str s
theorem mem_nil_of {α : Type} {P : α → Prop} : ∀ x ∈ ([] : List α), P x := fun _ h => nomatch h
theorem mem_cons_of {α : Type} {P : α → Prop} {a : α} {l : List α} (h : P a) (t : ∀ x ∈ l, P x) : ∀ x ∈ a :: l, P x := fun x hx => by
  rcases List.mem_cons.mp hx with rfl | hx
  · exact h
  · exact t x hx
theorem fn_raw {P : Program} {w : World} {K : PySem.W.Frag} {mg : Str → Option Value} {base : Heap} {CX : CXT} {k : Nat} {f : Addr} {fd : FuncData} {ps : List Str} {sp : Sp} (F : FnOk P w K mg base CX k f fd ps sp) (b : Binds K fd ps []) : FnR P w K mg base CX k f sp :=
  (F.raw b .nil).imp fun vs H Q E h => by
    rw [List.append_nil]
    exact h
/-- a call by name, or with last parameters at their defaults -/
theorem fnv_gen {T : Tab} {P : Program} {w : World} {K : PySem.W.Frag} {mg : Str → Option Value} {base : Heap} {CX : CXT} {k : Nat} {f : Addr} {fd : FuncData} {ps ks : List Str} {ds : List Value} {dvs : List V} {dd : List D} {sem : List (Md × D) → OutF} (F : FnOk P w K mg base CX k f fd ps (spF T sem))
    (hb : ∀ (s : Shared) (us1 us2 : List Value), K.In s.heap → us1.length + ks.length + ds.length = ps.length → us2.length = ks.length → BindsTo s fd ⟨us1, ks.zip us2⟩ (ps.zip (us1 ++ us2 ++ ds))) (hd : Vals dvs ds) (hr : ∀ S, RepL T S dvs dd) : FnV P w K mg base CX k f (spF T (dfl sem dd)) ks :=
  fun A outer s H us1 us2 vs Q E hrm e0 r hl hs => by
    have hs' := spF_dfl hr hs
    have r2 : Vals (vs ++ dvs) (us1 ++ us2 ++ ds) := r.append hd
    have hlen := F.len _ _ _ _ hs'
    refine F.run A outer s H ⟨us1, ks.zip us2⟩ (us1 ++ us2 ++ ds) (vs ++ dvs) Q E hrm e0 (hb s us1 us2 (e0.mod.kin.keeps fun b o e => (e0.bs b o e).1) ?_ hl) r2 hs'
    have h1 := r2.length
    simp only [List.length_append] at h1 hlen
    omega
theorem ints_rep {T : Tab} {S : Hp} : ∀ ns : List Int, RepL T S (ns.map V.int) (ns.map D.int)
  | [] => .nil
  | n :: ns => .cons (.int n) (ints_rep ns)
theorem end_sp {T : Tab} {H : Hp} {a : Addr} {ns : List Int} {sem : List (Md × D) → OutF} (ho : Only H) (hS : SqL T.K H a (ns.map V.int)) (h : ∃ outs, outs.length = 1 ∧ sem [(.fz, .frl (ns.map D.int))] = .ok (.fz (.bl true)) outs) :
    spF T sem [.ref a] H (fun v _ => v = .bl true) fun _ _ _ => False := by
  obtain ⟨outs, hl, e⟩ := h
  refine ⟨H, [(.fz, .frl (ns.map D.int))], fun x hx => .inl (by rw [List.mem_singleton.mp hx]), ⟨.refl H, rfl, fun i m d q => ?_, fun i j b ⟨m, d, x1, x2, _⟩ _ => ?_, fun b c q => ?_⟩, ?_⟩
  · cases i with
    | zero =>
      cases q
      exact ⟨.ref a, rfl, fun _ => .frl hS (ints_rep ns), fun z => absurd rfl z⟩
    | succ i => simp at q
  · exfalso
    cases i with
    | zero => cases x1; exact x2 rfl
    | succ i => simp at x1
  · rcases ho b with z | ⟨o, xs, z⟩
    · rw [z] at q; cases q
    · rw [z] at q; cases q
  · rw [e]
    refine ⟨hl, fun v S' H' _ _ hr => ?_⟩
    cases hr
    rfl
theorem end_cx {P : Program} {w : World} {H : Hp} {s : Shared} {e : Value} {s' : Shared} (h : L2.CX P w [] H s (fun _ _ _ => False) e s') : False := by
  obtain ⟨_, _, _, _, _, _, _, _, _, _, _, _, z⟩ := h
  exact z
end Z

set_option Elab.async false
set_option linter.all false
set_option maxHeartbeats 1000000
/-! ZEq: level 2, == of plain data. -/
namespace Z
open PySem
/-! ### == -/
mutual
/-- plain data: no bools, no dicts, no instances -/
def plD : D → Bool
  | .non => true
  | .int _ => true
  | .str s => s.all (· < 1114112)
  | .tup ds => plDs ds
  | .lst ds => plDs ds
  | _ => false
def plDs : List D → Bool
  | [] => true
  | d :: ds => plD d && plDs ds
end
mutual
def dpD : D → Nat
  | .tup ds => dpDs ds + 1
  | .lst ds => dpDs ds + 1
  | _ => 0
def dpDs : List D → Nat
  | [] => 0
  | d :: ds => max (dpD d) (dpDs ds)
end
mutual
theorem pl_py : ∀ {d : D}, plD d = true → ∃ x, pyd d = some x ∧ x.canLay0 = true ∧ x.depth = dpD d
  | .non, _ => ⟨.none, rfl, rfl, rfl⟩
  | .int i, _ => ⟨.int i, rfl, rfl, rfl⟩
  | .str s, h => ⟨.str (sx s), rfl, by
    show (sx s).cps.all (· < 0x110000) = true
    have h : s.all (· < 1114112) = true := h
    simpa [sx] using h, rfl⟩
  | .tup ds, h => by
    obtain ⟨xs, e1, e2, e3⟩ := pls_py (ds := ds) h
    refine ⟨.tuple xs, ?_, e2, ?_⟩
    · simp only [pyd, e1]; rfl
    · show PyData.depthAll xs + 1 = dpDs ds + 1
      rw [e3]
  | .lst ds, h => by
    obtain ⟨xs, e1, e2, e3⟩ := pls_py (ds := ds) h
    refine ⟨.list xs, ?_, e2, ?_⟩
    · simp only [pyd, e1]; rfl
    · show PyData.depthAll xs + 1 = dpDs ds + 1
      rw [e3]
  | .bl _, h => by simp [plD] at h
  | .frl _, h => by simp [plD] at h
  | .dct _, h => by simp [plD] at h
  | .obj _ _, h => by simp [plD] at h
theorem pls_py : ∀ {ds : List D}, plDs ds = true → ∃ xs, pyds ds = some xs ∧ PyData.canLayAll0 xs = true ∧ PyData.depthAll xs = dpDs ds
  | [], _ => ⟨[], rfl, rfl, rfl⟩
  | d :: ds, h => by
    simp only [plDs, Bool.and_eq_true] at h
    obtain ⟨x, e1, e2, e3⟩ := pl_py h.1
    obtain ⟨xs, f1, f2, f3⟩ := pls_py h.2
    refine ⟨x :: xs, by simp only [pyds, e1, f1], ?_, ?_⟩
    · show (x.canLay0 && PyData.canLayAll0 xs) = true
      rw [e2, f2]; rfl
    · show max x.depth (PyData.depthAll xs) = max (dpD d) (dpDs ds)
      rw [e3, f3]
end
theorem sx_eq {s t : List Nat} : sx s = sx t ↔ s = t := by
  constructor
  · intro h
    have := congrArg (fun z : Str => z.cps.toList) h
    simpa [sx] using this
  · intro h; rw [h]
/-- the kind of a plain thing -/
def kdD : D → Nat
  | .non => 0
  | .int _ => 1
  | .str _ => 2
  | .tup _ => 3
  | .lst _ => 4
  | _ => 5
def kdP : PyData → Nat
  | .none => 0
  | .int _ => 1
  | .str _ => 2
  | .tuple _ => 3
  | .list _ => 4
  | _ => 5
theorem kd_py {d : D} {x : PyData} (h : plD d = true) (q : pyd d = some x) : kdP x = kdD d ∧ kdD d < 5 := by
  cases d <;> first | (simp [plD] at h; done) | skip
  · simp only [pyd] at q; cases q; exact ⟨rfl, by decide⟩
  · simp only [pyd] at q; cases q; exact ⟨rfl, show 1 < 5 by decide⟩
  · simp only [pyd] at q; cases q; exact ⟨rfl, show 2 < 5 by decide⟩
  · simp only [pyd, Option.map_eq_some_iff] at q; obtain ⟨a, _, rfl⟩ := q; exact ⟨rfl, show 3 < 5 by decide⟩
  · simp only [pyd, Option.map_eq_some_iff] at q; obtain ⟨a, _, rfl⟩ := q; exact ⟨rfl, show 4 < 5 by decide⟩
theorem eqv_kd {x y : PyData} (h : kdP x ≠ kdP y) (hx : kdP x < 5) (hy : kdP y < 5) : PyData.eqv x y = false := by
  cases x <;> cases y <;> first | (exact absurd rfl h) | (exact absurd hx (by show ¬ (5 < 5); decide)) | (exact absurd hy (by show ¬ (5 < 5); decide)) | simp [PyData.eqv]
mutual
theorem eqv_pl : ∀ {d e : D} {x y : PyData}, plD d = true → plD e = true → pyd d = some x → pyd e = some y → kdD d = kdD e → (PyData.eqv x y = true ↔ d = e)
  | .non, .non, x, y, h, h', q, q', _ => by
    simp only [pyd] at q q'; cases q; cases q'; simp [PyData.eqv]
  | .int i, .int j, x, y, h, h', q, q', _ => by
    simp only [pyd] at q q'; cases q; cases q'; simp [PyData.eqv]
  | .str s, .str t, x, y, h, h', q, q', _ => by
    simp only [pyd] at q q'; cases q; cases q'; simp [PyData.eqv, sx_eq]
  | .tup ds, .tup es, x, y, h, h', q, q', _ => by
    simp only [pyd, Option.map_eq_some_iff] at q q'
    obtain ⟨a, e1, rfl⟩ := q
    obtain ⟨b, e2, rfl⟩ := q'
    simp only [PyData.eqv, D.tup.injEq]
    exact eqvs_pl h h' e1 e2
  | .lst ds, .lst es, x, y, h, h', q, q', _ => by
    simp only [pyd, Option.map_eq_some_iff] at q q'
    obtain ⟨a, e1, rfl⟩ := q
    obtain ⟨b, e2, rfl⟩ := q'
    simp only [PyData.eqv, D.lst.injEq]
    exact eqvs_pl h h' e1 e2
  | .bl _, _, _, _, h, _, _, _, _ => by simp [plD] at h
  | .frl _, _, _, _, h, _, _, _, _ => by simp [plD] at h
  | .dct _, _, _, _, h, _, _, _, _ => by simp [plD] at h
  | .obj _ _, _, _, _, h, _, _, _, _ => by simp [plD] at h
  | .non, .int _, _, _, _, _, _, _, k => by cases k
  | .non, .str _, _, _, _, _, _, _, k => by cases k
  | .non, .tup _, _, _, _, _, _, _, k => by cases k
  | .non, .lst _, _, _, _, _, _, _, k => by cases k
  | .int _, .non, _, _, _, _, _, _, k => by cases k
  | .int _, .str _, _, _, _, _, _, _, k => by cases k
  | .int _, .tup _, _, _, _, _, _, _, k => by cases k
  | .int _, .lst _, _, _, _, _, _, _, k => by cases k
  | .str _, .non, _, _, _, _, _, _, k => by cases k
  | .str _, .int _, _, _, _, _, _, _, k => by cases k
  | .str _, .tup _, _, _, _, _, _, _, k => by cases k
  | .str _, .lst _, _, _, _, _, _, _, k => by cases k
  | .tup _, .non, _, _, _, _, _, _, k => by cases k
  | .tup _, .int _, _, _, _, _, _, _, k => by cases k
  | .tup _, .str _, _, _, _, _, _, _, k => by cases k
  | .tup _, .lst _, _, _, _, _, _, _, k => by cases k
  | .lst _, .non, _, _, _, _, _, _, k => by cases k
  | .lst _, .int _, _, _, _, _, _, _, k => by cases k
  | .lst _, .str _, _, _, _, _, _, _, k => by cases k
  | .lst _, .tup _, _, _, _, _, _, _, k => by cases k
  | _, .bl _, _, _, _, h, _, _, _ => by simp [plD] at h
  | _, .frl _, _, _, _, h, _, _, _ => by simp [plD] at h
  | _, .dct _, _, _, _, h, _, _, _ => by simp [plD] at h
  | _, .obj _ _, _, _, _, h, _, _, _ => by simp [plD] at h
theorem eqvs_pl : ∀ {ds es : List D} {xs ys : List PyData}, plDs ds = true → plDs es = true → pyds ds = some xs → pyds es = some ys → (PyData.eqvAll xs ys = true ↔ ds = es)
  | [], [], xs, ys, h, h', q, q' => by simp only [pyds] at q q'; cases q; cases q'; simp [PyData.eqvAll]
  | [], e :: es, xs, ys, h, h', q, q' => by
    simp only [plDs, Bool.and_eq_true] at h'
    obtain ⟨x, e1, _, _⟩ := pl_py h'.1
    obtain ⟨r, e2, _, _⟩ := pls_py h'.2
    simp only [pyds, e1, e2] at q q'
    cases q; cases q'
    simp [PyData.eqvAll]
  | d :: ds, [], xs, ys, h, h', q, q' => by
    simp only [plDs, Bool.and_eq_true] at h
    obtain ⟨x, e1, _, _⟩ := pl_py h.1
    obtain ⟨r, e2, _, _⟩ := pls_py h.2
    simp only [pyds, e1, e2] at q q'
    cases q; cases q'
    simp [PyData.eqvAll]
  | d :: ds, e :: es, xs, ys, h, h', q, q' => by
    simp only [plDs, Bool.and_eq_true] at h h'
    obtain ⟨x, e1, _, _⟩ := pl_py h.1
    obtain ⟨r, e2, _, _⟩ := pls_py h.2
    obtain ⟨y, e3, _, _⟩ := pl_py h'.1
    obtain ⟨t, e4, _, _⟩ := pls_py h'.2
    simp only [pyds, e1, e2] at q
    simp only [pyds, e3, e4] at q'
    cases q; cases q'
    simp only [PyData.eqvAll, Bool.and_eq_true, List.cons.injEq]
    have k := eqvs_pl h.2 h'.2 e2 e4
    by_cases hk : kdD d = kdD e
    · rw [eqv_pl h.1 h'.1 e1 e3 hk, k]
    · have a := kd_py h.1 e1
      have b := kd_py h'.1 e3
      have : PyData.eqv x y = false := eqv_kd (by rw [a.1, b.1]; exact hk) (by rw [a.1]; exact a.2) (by rw [b.1]; exact b.2)
      rw [this]
      constructor
      · intro z; cases z.1
      · intro z; exact absurd (by rw [z.1]) hk
end
/-- == of plain data is equality -/
theorem eqD_pl {d e : D} (h : plD d = true) (h' : plD e = true) (z : dpD d ≤ 64) (z' : dpD e ≤ 64) : ∃ b, eqD d e = some b ∧ (b = true ↔ d = e) := by
  obtain ⟨x, e1, e2, e3⟩ := pl_py h
  obtain ⟨y, f1, f2, f3⟩ := pl_py h'
  have s1 : SeqAt.shaped x = true := by unfold SeqAt.shaped; rw [e2, e3]; simpa using z
  have s2 : SeqAt.shaped y = true := by unfold SeqAt.shaped; rw [f2, f3]; simpa using z'
  refine ⟨PyData.eqv x y, ?_, ?_⟩
  · unfold eqD
    simp only [e1, f1, s1, s2, Bool.and_self, if_true]
  · by_cases hk : kdD d = kdD e
    · exact eqv_pl h h' e1 f1 hk
    · have a := kd_py h e1
      have b := kd_py h' f1
      have : PyData.eqv x y = false := eqv_kd (by rw [a.1, b.1]; exact hk) (by rw [a.1]; exact a.2) (by rw [b.1]; exact b.2)
      rw [this]
      constructor
      · intro z; cases z
      · intro z; exact absurd (by rw [z]) hk
/-! data are the same or not -/
mutual
def sameD : D → D → Bool
  | .non, .non => true
  | .bl a, .bl b => a == b
  | .int a, .int b => a == b
  | .str a, .str b => a == b
  | .tup a, .tup b => sameDs a b
  | .lst a, .lst b => sameDs a b
  | .frl a, .frl b => sameDs a b
  | .dct a, .dct b => sameDp a b
  | .obj c a, .obj c' b => c == c' && sameDs a b
  | _, _ => false
def sameDs : List D → List D → Bool
  | [], [] => true
  | a :: as, b :: bs => sameD a b && sameDs as bs
  | _, _ => false
def sameDp : List (D × D) → List (D × D) → Bool
  | [], [] => true
  | (a, c) :: as, (b, d) :: bs => sameD a b && sameD c d && sameDp as bs
  | _, _ => false
end
mutual
theorem sameD_iff : ∀ {d e : D}, sameD d e = true ↔ d = e
  | .non, e => by cases e <;> simp [sameD]
  | .bl a, e => by cases e <;> simp [sameD]
  | .int a, e => by cases e <;> simp [sameD]
  | .str a, e => by cases e <;> simp [sameD]
  | .tup a, e => by cases e <;> simp [sameD]; exact sameDs_iff
  | .lst a, e => by cases e <;> simp [sameD]; exact sameDs_iff
  | .frl a, e => by cases e <;> simp [sameD]; exact sameDs_iff
  | .dct a, e => by cases e <;> simp [sameD]; exact sameDp_iff
  | .obj c a, e => by
    cases e <;> simp [sameD]
    intro _
    exact sameDs_iff
theorem sameDs_iff : ∀ {d e : List D}, sameDs d e = true ↔ d = e
  | [], e => by cases e <;> simp [sameDs]
  | a :: as, e => by
    cases e with
    | nil => simp [sameDs]
    | cons b bs =>
      simp only [sameDs, Bool.and_eq_true, List.cons.injEq]
      rw [sameD_iff (d := a), sameDs_iff (d := as)]
theorem sameDp_iff : ∀ {d e : List (D × D)}, sameDp d e = true ↔ d = e
  | [], e => by cases e <;> simp [sameDp]
  | (a, c) :: as, e => by
    cases e with
    | nil => simp [sameDp]
    | cons b bs =>
      obtain ⟨b, d⟩ := b
      simp only [sameDp, Bool.and_eq_true, List.cons.injEq, Prod.mk.injEq]
      rw [sameD_iff (d := a), sameD_iff (d := c), sameDp_iff (d := as)]
end
instance : DecidableEq D := fun d e => if h : sameD d e = true then isTrue (sameD_iff.mp h) else isFalse fun z => h (sameD_iff.mpr z)
/-- == of plain data -/
theorem eqD_dec {d e : D} (h : plD d = true) (h' : plD e = true) (z : dpD d ≤ 64) (z' : dpD e ≤ 64) : eqD d e = some (decide (d = e)) := by
  obtain ⟨b, e1, e2⟩ := eqD_pl h h' z z'
  rw [e1]
  cases b with
  | true => rw [decide_eq_true (e2.mp rfl)]
  | false => rw [decide_eq_false fun z => by cases e2.mpr z]
theorem eqD_str {s t : List Nat} (h : ∀ c ∈ s, c < 1114112) (h' : ∀ c ∈ t, c < 1114112) : eqD (.str s) (.str t) = some (decide (s = t)) := by
  rw [eqD_dec (by simp [plD]; exact h) (by simp [plD]; exact h') (by simp [dpD]) (by simp [dpD])]
  simp
theorem eqD_int (a b : Int) : eqD (.int a) (.int b) = some (decide (a = b)) := by
  obtain ⟨c, e, h⟩ := eqD_pl (d := .int a) (e := .int b) rfl rfl (by simp [dpD]) (by simp [dpD])
  rw [e]
  simp only [D.int.injEq] at h
  cases c <;> simp_all
theorem eqD_bl (a b : Bool) : eqD (.bl a) (.bl b) = some (a == b) := by
  unfold eqD
  have h : ∀ c : Bool, SeqAt.shaped (.bool c) = true := by decide
  simp only [pyd, h, Bool.and_self, if_true, PyData.eqv]
end Z

set_option Elab.async false
set_option linter.all false
set_option maxHeartbeats 1000000
/-! ZWp: level 2, what a text must bring about, rule by rule (to be used by simp). -/
namespace Z
open PySem
structure Ed where
  nx : DSt → Prop
  rt : R → DSt → Prop
  bk : DSt → Prop
  ct : DSt → Prop
  ex : Ex → DSt → Prop
def wS (o : OutS) (En : Ed) : Prop := match o with
  | .nx δ => En.nx δ
  | .rt r δ => En.rt r δ
  | .bk δ => En.bk δ
  | .ct δ => En.ct δ
  | .ex x δ => En.ex x δ
  | .bad => False
/-- k of the end, t of an error -/
def wO {α : Type} (o : Out α) (t : Ex → DSt → Prop) (k : α → DSt → Prop) : Prop := match o with
  | .ok a δ => k a δ
  | .ex x δ => t x δ
  | .bad => False
theorem wO_bind {α β : Type} {o : Out α} {f : α → DSt → Out β} {k : β → DSt → Prop} {t : Ex → DSt → Prop} : wO (o.bind f) t k = wO o t fun a δ => wO (f a δ) t k := by cases o <;> rfl
theorem wO_mono {α : Type} {o : Out α} {k k' : α → DSt → Prop} {t t' : Ex → DSt → Prop} (h : wO o t k) (m : ∀ a δ, k a δ → k' a δ) (n : ∀ a δ, t a δ → t' a δ) : wO o t' k' := by
  cases o with
  | ok a δ => exact m a δ h
  | ex x δ => exact n x δ h
  | bad => exact h
/-! sealed: the elaborator must not run the text -/
structure Wss (m : Sts) (δ : DSt) (En : Ed) : Prop where
  run : wS (denSs m δ) En
structure Ws (m : St1) (δ : DSt) (En : Ed) : Prop where
  run : wS (denS m δ) En
structure We (m : E) (δ : DSt) (t : Ex → DSt → Prop) (k : R → DSt → Prop) : Prop where
  run : wO (den m δ) t k
structure Wr (m : E) (δ : DSt) (t : Ex → DSt → Prop) (k : AR → DSt → Prop) : Prop where
  run : wO (rd m (den m δ) δ) t k
structure Wes (m : Es) (δ : DSt) (t : Ex → DSt → Prop) (k : List D → DSt → Prop) : Prop where
  run : wO (denEs m δ) t k
structure Wo (m : OE) (δ : DSt) (t : Ex → DSt → Prop) (k : Option Int → DSt → Prop) : Prop where
  run : wO (denO m δ) t k
structure Was (m : As) (δ : DSt) (t : Ex → DSt → Prop) (k : List AR → DSt → Prop) : Prop where
  run : wO (denAs m δ) t k
structure Wsrc (m : Src) (δ : DSt) (t : Ex → DSt → Prop) (k : List D × Option Nat → DSt → Prop) : Prop where
  run : wO (denSrc m δ) t k
def isVar' : E → Bool
  | .var _ => true
  | _ => false
/-- sealed: the kernel must not look within -/
structure Seal (p : Prop) : Prop where
  run : p
theorem Seal_eq {p : Prop} : Seal p = p := propext ⟨fun h => h.run, fun h => ⟨h⟩⟩
def W1 (δ : DSt) (o : Option R) (k : R → DSt → Prop) : Prop := Seal (match o with
  | some r => k r δ
  | none => False)
def WJ {α : Type} (o : Option α) (k : α → Prop) : Prop := Seal (match o with
  | some r => k r
  | none => False)
def Wf (r : R) (δ : DSt) (k : AR → DSt → Prop) : Prop := match r with
  | .fz d => k (.val d) δ
  | .fr d => givable d = true ∧ k (.val d) δ
def Wb (r : R) (k : Bool → Prop) : Prop := match r with
  | .fz (.bl b) => k b
  | _ => False
def Wi (r : R) (k : Int → Prop) : Prop := match r with
  | .fz (.int b) => k b
  | _ => False
def Wif (c : Bool) (P Q : Prop) : Prop := (c = true → P) ∧ (c = false → Q)
def Wv (i : Nat) (o : Option (Md × D)) (δ : DSt) (k : R → DSt → Prop) : Prop := match o with
  | some (.fz, d) => k (.fz d) δ
  | some (.ow, d) => givable d = true ∧ k (.fz d) (δ.set i (some (.fz, d)))
  | _ => False
def setR (i : Nat) (r : R) (δ : DSt) : DSt := match r with
  | .fz d => δ.set i (some (.fz, d))
  | .fr d => δ.set i (some (.ow, d))
def Ed.seq (En : Ed) (r : Sts) : Ed := ⟨fun δ => Wss r δ En, En.rt, En.bk, En.ct, En.ex⟩
/-- what a call brings about -/
def Wsem (o : OutF) (as : List AR) (δ : DSt) (t : Ex → DSt → Prop) (k : R → DSt → Prop) : Prop := Seal (match o with
  | .ok r outs => WJ (backTo δ as outs) fun δ' => k r δ'
  | .ex x outs => WJ (backTo δ as outs) fun δ' => t x δ'
  | .bad => False)
theorem WJ_none {α : Type} {k : α → Prop} : WJ none k = False := Seal_eq
theorem WJ_some {α : Type} {r : α} {k : α → Prop} : WJ (some r) k = k r := Seal_eq
theorem W1_some {δ : DSt} {r : R} {k : R → DSt → Prop} : W1 δ (some r) k = k r δ := Seal_eq
theorem W1_none {δ : DSt} {k : R → DSt → Prop} : W1 δ none k = False := Seal_eq
def Wcall (f : Fn) (as : List AR) (δ : DSt) (t : Ex → DSt → Prop) (k : R → DSt → Prop) : Prop := WJ (argsOf δ as) fun xs => Wsem (f.sem xs) as δ t k
theorem We_def {m : E} {δ : DSt} {t : Ex → DSt → Prop} {k : R → DSt → Prop} : We m δ t k ↔ wO (den m δ) t k := ⟨fun h => h.run, fun h => ⟨h⟩⟩
theorem Wr_def {m : E} {δ : DSt} {t : Ex → DSt → Prop} {k : AR → DSt → Prop} : Wr m δ t k ↔ wO (rd m (den m δ) δ) t k := ⟨fun h => h.run, fun h => ⟨h⟩⟩
theorem Wes_def {m : Es} {δ : DSt} {t : Ex → DSt → Prop} {k : List D → DSt → Prop} : Wes m δ t k ↔ wO (denEs m δ) t k := ⟨fun h => h.run, fun h => ⟨h⟩⟩
theorem Wo_def {m : OE} {δ : DSt} {t : Ex → DSt → Prop} {k : Option Int → DSt → Prop} : Wo m δ t k ↔ wO (denO m δ) t k := ⟨fun h => h.run, fun h => ⟨h⟩⟩
theorem Was_def {m : As} {δ : DSt} {t : Ex → DSt → Prop} {k : List AR → DSt → Prop} : Was m δ t k ↔ wO (denAs m δ) t k := ⟨fun h => h.run, fun h => ⟨h⟩⟩
theorem Wsrc_def {m : Src} {δ : DSt} {t : Ex → DSt → Prop} {k : List D × Option Nat → DSt → Prop} : Wsrc m δ t k ↔ wO (denSrc m δ) t k := ⟨fun h => h.run, fun h => ⟨h⟩⟩
theorem Ws_def {m : St1} {δ : DSt} {En : Ed} : Ws m δ En ↔ wS (denS m δ) En := ⟨fun h => h.run, fun h => ⟨h⟩⟩
theorem Wss_def {m : Sts} {δ : DSt} {En : Ed} : Wss m δ En ↔ wS (denSs m δ) En := ⟨fun h => h.run, fun h => ⟨h⟩⟩
theorem wO_opt1 {δ : DSt} {o : Option R} {t : Ex → DSt → Prop} {k : R → DSt → Prop} : wO (opt1 δ o) t k = W1 δ o k := by cases o <;> simp only [W1_some, W1_none] <;> rfl
theorem wO_frz {r : R} {δ : DSt} {t : Ex → DSt → Prop} {k : AR → DSt → Prop} : wO (frz r δ) t k = Wf r δ k := by
  cases r with
  | fz d => rfl
  | fr d =>
    simp only [frz, Wf]
    by_cases h : givable d = true
    · rw [if_pos h]; simp only [h, true_and]; rfl
    · rw [if_neg h]; simp [h, wO]
theorem wO_isB {r : R} {δ : DSt} {t : Ex → DSt → Prop} {k : Bool → DSt → Prop} : wO (isB r δ) t k = Wb r fun b => k b δ := by
  cases r with
  | fr d => rfl
  | fz d => cases d <;> rfl
theorem wO_isI {r : R} {δ : DSt} {t : Ex → DSt → Prop} {k : Option Int → DSt → Prop} : wO (isI r δ) t k = Wi r fun b => k (some b) δ := by
  cases r with
  | fr d => rfl
  | fz d => cases d <;> rfl
theorem wO_bif {α : Type} {c : Bool} {a b : Out α} {t : Ex → DSt → Prop} {k : α → DSt → Prop} : wO (if c then a else b) t k = Wif c (wO a t k) (wO b t k) := by
  cases c
  · simp [Wif]
  · simp [Wif]
theorem wS_bif {c : Bool} {a b : OutS} {En : Ed} : wS (if c then a else b) En = Wif c (wS a En) (wS b En) := by
  cases c
  · simp [Wif]
  · simp [Wif]
theorem wS_s' {α : Type} {o : Out α} {f : α → DSt → OutS} {En : Ed} : wS (o.s f) En = (match o with | .ok a δ => wS (f a δ) En | .ex x δ => En.ex x δ | .bad => False) := by cases o <;> rfl
/-! ### the small ones -/
theorem Wf_fz {d : D} {δ : DSt} {k : AR → DSt → Prop} : Wf (.fz d) δ k = k (.val d) δ := rfl
theorem Wf_lst {d : List D} {δ : DSt} {k : AR → DSt → Prop} : Wf (.fr (.lst d)) δ k = k (.val (.lst d)) δ := by simp [Wf, givable]
theorem Wf_dct {d : List (D × D)} {δ : DSt} {k : AR → DSt → Prop} : Wf (.fr (.dct d)) δ k = k (.val (.dct d)) δ := by simp [Wf, givable]
theorem Wf_obj {c : Nat} {d : D} {ds : List D} {δ : DSt} {k : AR → DSt → Prop} : Wf (.fr (.obj c (d :: ds))) δ k = k (.val (.obj c (d :: ds))) δ := by simp [Wf, givable]
theorem Wb_bl {b : Bool} {k : Bool → Prop} : Wb (.fz (.bl b)) k = k b := rfl
theorem Wi_int {b : Int} {k : Int → Prop} : Wi (.fz (.int b)) k = k b := rfl
theorem Wif_true {P Q : Prop} : Wif true P Q = P := by simp [Wif]
theorem Wif_false {P Q : Prop} : Wif false P Q = Q := by simp [Wif]
theorem Wv_fz {i : Nat} {d : D} {δ : DSt} {k : R → DSt → Prop} : Wv i (some (.fz, d)) δ k = k (.fz d) δ := rfl
theorem Wv_ow {i : Nat} {d : List D} {δ : DSt} {k : R → DSt → Prop} : Wv i (some (.ow, .lst d)) δ k = k (.fz (.lst d)) (δ.set i (some (.fz, .lst d))) := by simp [Wv, givable]
theorem Wv_owd {i : Nat} {d : List (D × D)} {δ : DSt} {k : R → DSt → Prop} : Wv i (some (.ow, .dct d)) δ k = k (.fz (.dct d)) (δ.set i (some (.fz, .dct d))) := by simp [Wv, givable]
theorem Wv_owo {i : Nat} {c : Nat} {d : D} {ds : List D} {δ : DSt} {k : R → DSt → Prop} : Wv i (some (.ow, .obj c (d :: ds))) δ k = k (.fz (.obj c (d :: ds))) (δ.set i (some (.fz, .obj c (d :: ds)))) := by simp [Wv, givable]
theorem Wsem_ok {r : R} {outs : List D} {as : List AR} {δ : DSt} {t : Ex → DSt → Prop} {k : R → DSt → Prop} : Wsem (.ok r outs) as δ t k = WJ (backTo δ as outs) fun δ' => k r δ' := Seal_eq
theorem setR_fz {i : Nat} {d : D} {δ : DSt} : setR i (.fz d) δ = δ.set i (some (.fz, d)) := rfl
theorem setR_fr {i : Nat} {d : D} {δ : DSt} : setR i (.fr d) δ = δ.set i (some (.ow, d)) := rfl
theorem slotD_0 {s : Sl} {δ : DSt} : slotD (s :: δ) 0 = s := rfl
theorem slotD_s {s : Sl} {δ : DSt} {n : Nat} : slotD (s :: δ) (n + 1) = slotD δ n := rfl
theorem res_val {δ : DSt} {d : D} : res δ (.val d) = some d := rfl
theorem res_pk {δ : DSt} {i : Nat} : res δ (.pk i) = (slotD δ i).map (·.2) := rfl
/-! ### expressions -/
section
variable {δ : DSt} {t : Ex → DSt → Prop} {k : R → DSt → Prop} {kr : AR → DSt → Prop}
theorem We_var {i : Nat} : We (.var i) δ t k ↔ Wv i (slotD δ i) δ k := by
  rw [We_def, den]
  rcases h : slotD δ i with _ | ⟨m, d⟩
  · exact Iff.rfl
  · cases m <;> simp only [Wv]
    · rfl
    · by_cases h : givable d = true
      · rw [if_pos h]; simp only [h, true_and]; rfl
      · rw [if_neg h]; simp [h, wO]
    · rfl
    · rfl
theorem We_int {i : Int} : We (.int i) δ t k ↔ k (.fz (.int i)) δ := by rw [We_def, den]; rfl
theorem We_str {i : List Nat} : We (.str i) δ t k ↔ k (.fz (.str i)) δ := by rw [We_def, den]; rfl
theorem We_bl {i : Bool} : We (.bl i) δ t k ↔ k (.fz (.bl i)) δ := by rw [We_def, den]; rfl
theorem We_non : We .non δ t k ↔ k (.fz .non) δ := by rw [We_def, den]; rfl
theorem We_gl {x : String} {d : D} : We (.gl x d) δ t k ↔ k (.fz d) δ := by rw [We_def, den]; rfl
theorem We_dspc {x : List Nat} {i : Int} : We (.dspc x i) δ t k ↔ k (.fr (.dct [(.str x, .int i)])) δ := by rw [We_def, den]; rfl
theorem We_fs {es : Es} : We (.fs es) δ t k ↔ Wes es δ (fun _ _ => False) fun ds δ => WJ (strsD ds) fun ys => ys.flatten.length ≤ sizeL ∧ k (.fz (.str ys.flatten)) δ := by
  rw [We_def, Wes_def, den]
  cases denEs es δ with
  | bad => exact Iff.rfl
  | ex x δ => exact Iff.rfl
  | ok ds δ =>
    show wO _ _ _ ↔ WJ (strsD ds) _
    simp only []
    cases strsD ds with
    | none => rw [WJ_none]; exact Iff.rfl
    | some ys =>
      rw [WJ_some]
      dsimp only
      by_cases h : ys.flatten.length ≤ sizeL
      · rw [if_pos h]; simp only [h, true_and]; exact Iff.rfl
      · rw [if_neg h]; exact ⟨fun z => z.elim, fun z => (h z.1).elim⟩
theorem We_tup {es : Es} : We (.tup es) δ t k ↔ Wes es δ t fun ds δ => k (.fz (.tup ds)) δ := by rw [We_def, Wes_def, den, wO_bind]; rfl
theorem We_lst {es : Es} : We (.lst es) δ t k ↔ Wes es δ t fun ds δ => k (.fr (.lst ds)) δ := by rw [We_def, Wes_def, den, wO_bind]; rfl
theorem We_op1 {p : K1} {a : E} : We (.op1 p a) δ t k ↔ Wr a δ t fun x δ => W1 δ ((res δ x).bind (k1 p)) k := by
  rw [We_def, Wr_def, den, wO_bind]; simp only [wO_opt1]
theorem We_op2 {p : K2} {a b : E} : We (.op2 p a b) δ t k ↔ Wr a δ t fun x δ => Wr b δ t fun y δ => W1 δ ((res δ x).bind fun d => (res δ y).bind (k2 p d)) k := by
  rw [We_def, Wr_def, den, wO_bind]; simp only [Wr_def, wO_opt1, wO_bind]
theorem We_sm1 {p : M1} {a b : E} : We (.sm1 p a b) δ t k ↔ Wr a δ t fun x δ => WJ (res δ x) fun d => match d with | .str s => Wr b δ t fun y δ => W1 δ ((res δ y).bind (m1 p s)) k | _ => False := by
  rw [We_def, Wr_def, den, wO_bind]
  refine iff_of_eq (congrArg _ (funext fun x => funext fun δ => ?_))
  cases h : res δ x with
  | none => rw [WJ_none]; rfl
  | some d => rw [WJ_some]; cases d <;> first | rfl | simp only [Wr_def, wO_bind, wO_opt1]
theorem We_slc {a : E} {lo hi : OE} : We (.slc a lo hi) δ t k ↔ Wr a δ t fun x δ => Wo lo δ t fun l δ => Wo hi δ t fun h δ => W1 δ ((res δ x).bind fun d => slcD d l h) k := by
  rw [We_def, Wr_def, den, wO_bind]; simp only [Wo_def, wO_opt1, wO_bind]
theorem We_isi {a : E} {o : Bool} {ks : List Ki} : We (.isi a o ks) δ t k ↔ Wr a δ t fun x δ => W1 δ ((res δ x).bind fun d => (kisD d ks).map fun b => .fz (.bl b)) k := by
  rw [We_def, Wr_def, den, wO_bind]; simp only [wO_opt1]
theorem We_and {a b : E} : We (.and a b) δ t k ↔ We a δ t fun r δ => Wb r fun c => Wif c (We b δ t k) (k (.fz (.bl false)) δ) := by
  rw [We_def, We_def, den, wO_bind, wO_bind]; simp only [We_def, wO_isB, wO_bif]; rfl
theorem We_or {a b : E} : We (.or a b) δ t k ↔ We a δ t fun r δ => Wb r fun c => Wif c (k (.fz (.bl true)) δ) (We b δ t k) := by
  rw [We_def, We_def, den, wO_bind, wO_bind]; simp only [We_def, wO_isB, wO_bif]; rfl
theorem We_one {a : E} : We (.one a) δ t k ↔ We a δ t k := by rw [We_def, We_def, den]
theorem We_not {a : E} : We (.not a) δ t k ↔ We a δ t fun r δ => Wb r fun c => k (.fz (.bl (!c))) δ := by
  rw [We_def, We_def, den, wO_bind, wO_bind]; simp only [wO_isB]; rfl
theorem We_ife {c a b : E} : We (.ife c a b) δ t k ↔ We c δ t fun r δ => Wb r fun c => Wif c (We a δ t k) (We b δ t k) := by
  rw [We_def, We_def, den, wO_bind, wO_bind]; simp only [We_def, wO_isB, wO_bif]
theorem We_chn {p q : K2} {a b c : E} : We (.chn p q a b c) δ t k ↔ Wr a δ t fun x δ => Wr b δ t fun y δ => W1 δ ((res δ x).bind fun d => (res δ y).bind (k2 p d)) fun r δ => Wb r fun u =>
    Wif u (Wr c δ t fun z δ => W1 δ ((res δ y).bind fun d => (res δ z).bind (k2 q d)) k) (k (.fz (.bl false)) δ) := by
  rw [We_def, Wr_def, den, wO_bind]; simp only [Wr_def, wO_opt1, wO_bind, wO_isB, wO_bif]; rfl
theorem We_fld {a : E} {c f : Nat} : We (.fld a c f) δ t k ↔ Wr a δ t fun x δ => WJ (res δ x) fun d => match d with | .obj c' ds => c' = c ∧ W1 δ ((ds[f]?).map .fz) k | _ => False := by
  rw [We_def, Wr_def, den, wO_bind]
  refine iff_of_eq (congrArg _ (funext fun x => funext fun δ => ?_))
  cases h : res δ x with
  | none => rw [WJ_none]; rfl
  | some d =>
    rw [WJ_some]
    cases d <;> first | rfl | skip
    by_cases e : ‹Nat› = c
    · dsimp only; rw [if_pos e, wO_opt1]; simp only [e, true_and]
    · dsimp only; rw [if_neg e]; simp [e, wO]
def Wpop (i : Nat) (o : Option (Md × D)) (δ : DSt) (k : R → DSt → Prop) : Prop := match o with
  | some (m, .lst ds) => (m = .ow ∨ m = .io) ∧ WJ ds.getLast? fun d => k (.fz d) (δ.set i (some (m, .lst ds.dropLast)))
  | _ => False
theorem We_pop {i : Nat} : We (.pop i) δ t k ↔ Wpop i (slotD δ i) δ k := by
  rw [We_def, den]
  rcases slotD δ i with _ | ⟨m, d⟩
  · exact Iff.rfl
  · cases d <;> first | exact Iff.rfl | skip
    rename_i ds
    dsimp only [Wpop]
    by_cases e : m = .ow ∨ m = .io
    · rw [if_pos e]; simp only [e, true_and]
      cases ds.getLast? <;> simp only [WJ_none, WJ_some] <;> exact Iff.rfl
    · rw [if_neg e]; simp [e, wO]
theorem wO_callD {f : Fn} {xs : List AR} : wO (callD f xs δ) t k = Wcall f xs δ t k := by
  unfold callD Wcall
  cases argsOf δ xs with
  | none => rw [WJ_none]; rfl
  | some ys =>
    rw [WJ_some]
    dsimp only
    unfold Wsem
    rw [Seal_eq]
    cases f.sem ys with
    | ok r outs => dsimp only; cases backTo δ xs outs <;> simp only [WJ_none, WJ_some] <;> rfl
    | ex x outs => dsimp only; cases backTo δ xs outs <;> simp only [WJ_none, WJ_some] <;> rfl
    | bad => rfl
theorem We_call {f : Fn} {as : As} : We (.call f as) δ t k ↔ Was as δ t fun xs δ => Wcall f xs δ t k := by
  rw [We_def, Was_def, den, wO_bind]; simp only [wO_callD]
def catA : List AR → List AR → List AR
  | [], ys => ys
  | x :: xs, ys => x :: catA xs ys
theorem catA_nil {ys : List AR} : catA [] ys = ys := rfl
theorem catA_cons {x : AR} {xs ys : List AR} : catA (x :: xs) ys = x :: catA xs ys := rfl
theorem catA_eq : ∀ {xs ys : List AR}, catA xs ys = xs ++ ys
  | [], _ => rfl
  | x :: xs, ys => congrArg (x :: ·) (catA_eq (xs := xs))
theorem We_callk {f : Fn} {as kas : As} : We (.callk f as kas) δ t k ↔ Was as δ t fun xs δ => Was kas δ t fun ys δ => Wcall f (catA xs ys) δ t k := by
  simp only [catA_eq]
  rw [We_def, Was_def, den, wO_bind]; simp only [wO_bind, Was_def, wO_callD]
/-! as an argument -/
theorem Wr_nv {m : E} (h : isVar' m = false) : Wr m δ t kr ↔ We m δ t fun r δ => Wf r δ kr := by
  rw [Wr_def, We_def]
  have : rd m (den m δ) δ = (den m δ).bind frz := by cases m <;> first | rfl | cases h
  rw [this, wO_bind]
  simp only [wO_frz]
def Wrv (i : Nat) (o : Option (Md × D)) (δ : DSt) (k : AR → DSt → Prop) : Prop := match o with
  | some _ => k (.pk i) δ
  | none => False
theorem Wrv_some {i : Nat} {p : Md × D} : Wrv i (some p) δ kr = kr (.pk i) δ := rfl
theorem Wr_var {i : Nat} : Wr (.var i) δ t kr ↔ Wrv i (slotD δ i) δ kr := by
  rw [Wr_def, rd]
  cases slotD δ i <;> rfl
theorem Wr_int {i : Int} : Wr (.int i) δ t kr ↔ kr (.val (.int i)) δ := by rw [Wr_nv rfl, We_int]; rfl
theorem Wr_str {i : List Nat} : Wr (.str i) δ t kr ↔ kr (.val (.str i)) δ := by rw [Wr_nv rfl, We_str]; rfl
theorem Wr_bl {i : Bool} : Wr (.bl i) δ t kr ↔ kr (.val (.bl i)) δ := by rw [Wr_nv rfl, We_bl]; rfl
theorem Wr_non : Wr .non δ t kr ↔ kr (.val .non) δ := by rw [Wr_nv rfl, We_non]; rfl
theorem Wr_gl {x : String} {d : D} : Wr (.gl x d) δ t kr ↔ kr (.val d) δ := by rw [Wr_nv rfl, We_gl]; rfl
theorem Wr_dspc {x : List Nat} {i : Int} : Wr (.dspc x i) δ t kr ↔ We (.dspc x i) δ t fun r δ => Wf r δ kr := Wr_nv rfl
theorem Wr_fs {es : Es} : Wr (.fs es) δ t kr ↔ We (.fs es) δ t fun r δ => Wf r δ kr := Wr_nv rfl
theorem Wr_tup {es : Es} : Wr (.tup es) δ t kr ↔ Wes es δ t fun ds δ => kr (.val (.tup ds)) δ := by rw [Wr_nv rfl, We_tup]; rfl
theorem Wr_lst {es : Es} : Wr (.lst es) δ t kr ↔ Wes es δ t fun ds δ => kr (.val (.lst ds)) δ := by rw [Wr_nv rfl, We_lst]; simp only [Wf_lst]
theorem Wr_op1 {p : K1} {a : E} : Wr (.op1 p a) δ t kr ↔ We (.op1 p a) δ t fun r δ => Wf r δ kr := Wr_nv rfl
theorem Wr_op2 {p : K2} {a b : E} : Wr (.op2 p a b) δ t kr ↔ We (.op2 p a b) δ t fun r δ => Wf r δ kr := Wr_nv rfl
theorem Wr_sm1 {p : M1} {a b : E} : Wr (.sm1 p a b) δ t kr ↔ We (.sm1 p a b) δ t fun r δ => Wf r δ kr := Wr_nv rfl
theorem Wr_slc {a : E} {b c : OE} : Wr (.slc a b c) δ t kr ↔ We (.slc a b c) δ t fun r δ => Wf r δ kr := Wr_nv rfl
theorem Wr_isi {a : E} {b : Bool} {c : List Ki} : Wr (.isi a b c) δ t kr ↔ We (.isi a b c) δ t fun r δ => Wf r δ kr := Wr_nv rfl
theorem Wr_and {a b : E} : Wr (.and a b) δ t kr ↔ We (.and a b) δ t fun r δ => Wf r δ kr := Wr_nv rfl
theorem Wr_or {a b : E} : Wr (.or a b) δ t kr ↔ We (.or a b) δ t fun r δ => Wf r δ kr := Wr_nv rfl
theorem Wr_not {a : E} : Wr (.not a) δ t kr ↔ We (.not a) δ t fun r δ => Wf r δ kr := Wr_nv rfl
theorem Wr_ife {a b c : E} : Wr (.ife a b c) δ t kr ↔ We (.ife a b c) δ t fun r δ => Wf r δ kr := Wr_nv rfl
theorem Wr_chn {p q : K2} {a b c : E} : Wr (.chn p q a b c) δ t kr ↔ We (.chn p q a b c) δ t fun r δ => Wf r δ kr := Wr_nv rfl
theorem Wr_fld {a : E} {c f : Nat} : Wr (.fld a c f) δ t kr ↔ We (.fld a c f) δ t fun r δ => Wf r δ kr := Wr_nv rfl
theorem Wr_pop {i : Nat} : Wr (.pop i) δ t kr ↔ We (.pop i) δ t fun r δ => Wf r δ kr := Wr_nv rfl
theorem Wr_call {f : Fn} {as : As} : Wr (.call f as) δ t kr ↔ We (.call f as) δ t fun r δ => Wf r δ kr := Wr_nv rfl
theorem Wr_callk {f : Fn} {as kas : As} : Wr (.callk f as kas) δ t kr ↔ We (.callk f as kas) δ t fun r δ => Wf r δ kr := Wr_nv rfl
theorem Wr_comp {tg : List Nat} {s : Src} {c : OE} {e : E} : Wr (.comp tg s c e) δ t kr ↔ We (.comp tg s c e) δ t fun r δ => Wf r δ kr := Wr_nv rfl
theorem Wes_nil {t : Ex → DSt → Prop} {k : List D → DSt → Prop} : Wes .nil δ t k ↔ k [] δ := by rw [Wes_def, denEs]; rfl
theorem Wes_cons {e : E} {es : Es} {t : Ex → DSt → Prop} {k : List D → DSt → Prop} : Wes (.cons e es) δ t k ↔ We e δ t fun r δ => Wf r δ fun x δ => match x with | .val d => Wes es δ t fun ds δ => k (d :: ds) δ | .pk _ => False := by
  rw [Wes_def, We_def, denEs, wO_bind]
  simp only [wO_bind, wO_frz]
  refine iff_of_eq (congrArg _ (funext fun r => funext fun δ => congrArg _ (funext fun x => funext fun δ => ?_)))
  cases x with
  | val d => simp only [Wes_def, wO_bind]; rfl
  | pk i => rfl
theorem Wo_none {t : Ex → DSt → Prop} {k : Option Int → DSt → Prop} : Wo .none δ t k ↔ k none δ := by rw [Wo_def, denO]; rfl
theorem Wo_some {e : E} {t : Ex → DSt → Prop} {k : Option Int → DSt → Prop} : Wo (.some e) δ t k ↔ We e δ t fun r δ => Wi r fun b => k (some b) δ := by
  rw [Wo_def, We_def, denO, wO_bind]; simp only [wO_isI]
theorem Was_nil {t : Ex → DSt → Prop} {k : List AR → DSt → Prop} : Was .nil δ t k ↔ k [] δ := by rw [Was_def, denAs]; rfl
theorem Was_ev {e : E} {as : As} {t : Ex → DSt → Prop} {k : List AR → DSt → Prop} : Was (.ev e as) δ t k ↔ We e δ t fun r δ => Wf r δ fun x δ => Was as δ t fun xs δ => k (x :: xs) δ := by
  rw [Was_def, We_def, denAs, wO_bind]; simp only [wO_bind, wO_frz, Was_def]; rfl
def Wpk (o : Option (Md × D)) (P : Prop) : Prop := match o with
  | some _ => P
  | none => False
theorem Wpk_some {p : Md × D} {P : Prop} : Wpk (some p) P = P := rfl
theorem Was_pk {i : Nat} {as : As} {t : Ex → DSt → Prop} {k : List AR → DSt → Prop} : Was (.pk i as) δ t k ↔ Wpk (slotD δ i) (Was as δ t fun xs δ => k (.pk i :: xs) δ) := by
  rw [Was_def, denAs]
  cases slotD δ i with
  | none => rfl
  | some p => simp only [wO_bind, Was_def, Wpk]; rfl
theorem Wcall_def {f : Fn} {as : List AR} : Wcall f as δ t k = WJ (argsOf δ as) fun xs => Wsem (f.sem xs) as δ t k := rfl
/-! sources -/
variable {ks : List D × Option Nat → DSt → Prop}
theorem Wsrc_seq {e : E} : Wsrc (.seq e) δ t ks ↔ Wr e δ t fun x δ => WJ ((res δ x).bind seqD) fun ds => ks (ds, lockI δ x) δ := by
  rw [Wsrc_def, Wr_def, denSrc, wO_bind]
  refine iff_of_eq (congrArg _ (funext fun x => funext fun δ => ?_))
  cases (res δ x).bind seqD <;> simp only [WJ_none, WJ_some] <;> rfl
theorem Wsrc_rng1 {e : E} : Wsrc (.rng1 e) δ t ks ↔ We e δ t fun r δ => Wi r fun j => range62 j = true ∧ ks (intsD 0 j.toNat, none) δ := by
  rw [Wsrc_def, We_def, denSrc, wO_bind]
  refine iff_of_eq (congrArg _ (funext fun r => funext fun δ => ?_))
  cases r with
  | fr d => rfl
  | fz d =>
    cases d <;> first | rfl | skip
    simp only [Wi]
    by_cases h : range62 ‹Int› = true
    · rw [if_pos h]; simp only [h, true_and]; rfl
    · rw [if_neg h]; simp [h, wO]
theorem Wsrc_rng2 {a b : E} : Wsrc (.rng2 a b) δ t ks ↔ We a δ t fun r δ => We b δ t fun q δ => Wi r fun i => Wi q fun j => (range62 i && range62 j) = true ∧ ks (intsD i (j - i).toNat, none) δ := by
  rw [Wsrc_def, We_def, denSrc, wO_bind]
  simp only [We_def, wO_bind]
  refine iff_of_eq (congrArg _ (funext fun r => funext fun δ => congrArg _ (funext fun q => funext fun δ => ?_)))
  cases r with
  | fr d => rfl
  | fz d =>
    cases d <;> first | rfl | skip
    cases q with
    | fr d => rfl
    | fz d =>
      cases d <;> first | rfl | skip
      rename_i i j
      simp only [Wi]
      by_cases h : (range62 i && range62 j) = true
      · rw [if_pos h]; simp only [h, true_and]; rfl
      · rw [if_neg h]; simp only [h]; simp; exact fun z => z
theorem Wsrc_zip {a b : E} : Wsrc (.zip a b) δ t ks ↔ We a δ t fun r δ => Wf r δ fun x δ => We b δ t fun q δ => Wf q δ fun y δ => WJ ((res δ x).bind seqD) fun xs => WJ ((res δ y).bind seqD) fun ys => ks (zipD xs ys, none) δ := by
  rw [Wsrc_def, We_def, denSrc, wO_bind]
  simp only [We_def, wO_bind, wO_frz]
  refine iff_of_eq (congrArg _ (funext fun r => funext fun δ => congrArg _ (funext fun q => funext fun δ => congrArg _ (funext fun r => funext fun δ => congrArg _ (funext fun q => funext fun δ => ?_)))))
  generalize (res δ _).bind seqD = x
  generalize (res δ _).bind seqD = y
  cases x <;> cases y <;> simp only [WJ_none, WJ_some] <;> rfl
end
/-! ### statements -/
section
variable {δ : DSt} {En : Ed}
theorem Wss_nil : Wss .nil δ En ↔ En.nx δ := by rw [Wss_def, denSs]; rfl
theorem Wss_cons {s : St1} {r : Sts} : Wss (.cons s r) δ En ↔ Ws s δ (En.seq r) := by
  rw [Wss_def, Ws_def, denSs]
  cases h : denS s δ <;> simp only [wS, Ed.seq, Wss_def]
theorem seq_nx {r : Sts} {δ : DSt} : (En.seq r).nx δ = Wss r δ En := rfl
theorem seq_rt {r : Sts} : (En.seq r).rt = En.rt := rfl
theorem seq_bk {r : Sts} : (En.seq r).bk = En.bk := rfl
theorem seq_ct {r : Sts} : (En.seq r).ct = En.ct := rfl
theorem seq_ex {r : Sts} : (En.seq r).ex = En.ex := rfl
end
end Z

set_option Elab.async false
set_option linter.all false
set_option maxHeartbeats 1000000
/-! ZWp2: level 2, statements, loops, comprehensions, defs. -/
namespace Z
open PySem
section
variable {δ : DSt} {En : Ed}
def Wunp (is : List Nat) (r : R) (δ : DSt) (P : DSt → Prop) : Prop := match r with
  | .fz d => WJ (bindT is d δ) P
  | _ => False
def WisL (o : Option (Md × D)) (P : Prop) : Prop := match o with
  | some (_, .lst _) => P
  | _ => False
def Wapp (i : Nat) (x : AR) (o : Option (Md × D)) (δ : DSt) (P : DSt → Prop) : Prop := match x, o with
  | .val d, some (m, .lst ds) => ((m = .ow ∨ m = .io) ∧ ds.length < sizeL) ∧ P (δ.set i (some (m, .lst (ds ++ [d]))))
  | _, _ => False
def Wseti (i : Nat) (x : AR) (j : Int) (o : Option (Md × D)) (δ : DSt) (P : DSt → Prop) : Prop := match x, o with
  | .val d, some (m, .lst ds) => (m = .ow ∨ m = .io) ∧ WJ (ixD ds.length j) fun n => P (δ.set i (some (m, .lst (ds.set n d))))
  | _, _ => False
def Wsetf (i c f : Nat) (x : AR) (o : Option (Md × D)) (δ : DSt) (P : DSt → Prop) : Prop := match x, o with
  | .val d, some (m, .obj c' ds) => ((m = .ow ∨ m = .io) ∧ c' = c ∧ f ≤ ds.length) ∧ P (δ.set i (some (m, .obj c' (if f < ds.length then ds.set f d else ds ++ [d]))))
  | _, _ => False
structure Wfor (tg : List Nat) (body : Sts) (p : List D × Option Nat) (δ1 : DSt) (En : Ed) : Prop where
  run : wS ((forL tg (fun δ => denSs body δ) p.1 (lockD δ1 p.2)).map fun δ2 => openD δ1 δ2 p.2) En
structure Wwh (c : E) (body : Sts) (n : Nat) (δ : DSt) (En : Ed) : Prop where
  run : wS (whileL (fun δ => (den c δ).bind isB) (fun δ => denSs body δ) n δ) En
theorem wS_sX {α : Type} {o : Out α} {f : α → DSt → OutS} : wS (o.s f) En = wO o En.ex fun a δ => wS (f a δ) En := by cases o <;> rfl
theorem Ws_set {i : Nat} {e : E} : Ws (.set i e) δ En ↔ We e δ En.ex fun r δ => En.nx (setR i r δ) := by
  rw [Ws_def, We_def, denS, wS_sX]
  refine iff_of_eq (congrArg _ (funext fun r => funext fun δ => ?_))
  cases r <;> rfl
theorem Ws_unp {is : List Nat} {e : E} : Ws (.unp is e) δ En ↔ We e δ En.ex fun r δ => Wunp is r δ En.nx := by
  rw [Ws_def, We_def, denS, wS_sX]
  refine iff_of_eq (congrArg _ (funext fun r => funext fun δ => ?_))
  cases r with
  | fr d => rfl
  | fz d => simp only [Wunp]; cases bindT is d δ <;> simp only [WJ_none, WJ_some] <;> rfl
def Wunps (is : List Nat) (k : Nat) (o : Option D) (δ : DSt) (P : DSt → Prop) : Prop := match o with
  | some (.lst ds) => (is.length ≤ ds.length + 1 ∧ k < is.length ∧ ds.length ≤ 16384) ∧ P ((is.zip (starD k is.length ds)).foldl (fun δ p => δ.set p.1 (some (.fz, p.2))) δ)
  | _ => False
theorem Wunps_lst {is : List Nat} {k : Nat} {ds : List D} {P : DSt → Prop} : Wunps is k (some (.lst ds)) δ P = ((is.length ≤ ds.length + 1 ∧ k < is.length ∧ ds.length ≤ 16384) ∧ P ((is.zip (starD k is.length ds)).foldl (fun δ p => δ.set p.1 (some (.fz, p.2))) δ)) := rfl
theorem wS_frz {r : R} {δ : DSt} {f : AR → DSt → OutS} : wS ((frz r δ).s f) En = Wf r δ fun a δ => wS (f a δ) En := by
  rw [wS_sX, wO_frz]
theorem Ws_unps {is : List Nat} {k : Nat} {e : E} : Ws (.unps is k e) δ En ↔ We e δ En.ex fun r δ => Wf r δ fun x δ => Wunps is k (res δ x) δ En.nx := by
  rw [Ws_def, We_def, denS, wS_sX]
  refine iff_of_eq (congrArg _ (funext fun r => funext fun δ => ?_))
  rw [wS_frz]
  refine congrArg _ (funext fun x => funext fun δ => ?_)
  rcases res δ x with _ | d
  · rfl
  · cases d <;> first | rfl | skip
    rename_i ds
    dsimp only [Wunps]
    by_cases h : is.length ≤ ds.length + 1 ∧ k < is.length ∧ ds.length ≤ 16384
    · rw [if_pos h]; simp only [h, true_and]; simp [wS]
    · rw [if_neg h]; simp only [h, false_and]; rfl
theorem Ws_app {i : Nat} {e : E} : Ws (.app i e) δ En ↔ WisL (slotD δ i) (We e δ En.ex fun r δ => Wf r δ fun x δ => Wapp i x (slotD δ i) δ En.nx) := by
  rw [Ws_def, denS]
  rcases slotD δ i with _ | ⟨m, d⟩
  · exact Iff.rfl
  · cases d <;> first | exact Iff.rfl | skip
    dsimp only [WisL]
    rw [We_def, wS_sX]
    refine iff_of_eq (congrArg _ (funext fun r => funext fun δ => ?_))
    rw [wS_frz]
    refine congrArg _ (funext fun x => funext fun δ => ?_)
    cases x with
    | pk n => rfl
    | val d =>
      rcases slotD δ i with _ | ⟨m, d'⟩
      · rfl
      · cases d' <;> first | rfl | skip
        rename_i ds
        dsimp only [Wapp]
        by_cases e : (m = .ow ∨ m = .io) ∧ ds.length < sizeL
        · rw [if_pos e]; simp only [e, true_and]; rfl
        · rw [if_neg e]; simp only [e, false_and]; rfl
theorem Ws_seti {i : Nat} {q e : E} : Ws (.seti i q e) δ En ↔ We e δ En.ex fun r δ => Wf r δ fun x δ => WisL (slotD δ i) (We q δ En.ex fun r δ => Wi r fun j => Wseti i x j (slotD δ i) δ En.nx) := by
  rw [Ws_def, We_def, denS, wS_sX]
  refine iff_of_eq (congrArg _ (funext fun r => funext fun δ => ?_))
  rw [wS_frz]
  refine congrArg _ (funext fun x => funext fun δ => ?_)
  rcases slotD δ i with _ | ⟨m, d⟩
  · rfl
  · cases d <;> first | rfl | skip
    dsimp only [WisL]
    rw [We_def, wS_sX]
    refine congrArg _ (funext fun q => funext fun δ => ?_)
    cases x with
    | pk n => cases q with
      | fr d => rfl
      | fz d => cases d <;> rfl
    | val d => cases q with
      | fr d => rfl
      | fz e =>
        cases e <;> first | rfl | skip
        rename_i j
        dsimp only [Wi, Wseti]
        rcases slotD δ i with _ | ⟨m, d'⟩
        · rfl
        · cases d' <;> first | rfl | skip
          rename_i ds
          dsimp only
          by_cases e : m = .ow ∨ m = .io
          · rw [if_pos e]; simp only [e, true_and]
            cases ixD ds.length j <;> simp only [WJ_none, WJ_some] <;> rfl
          · rw [if_neg e]; simp only [e, false_and]; rfl
theorem Ws_setf {i c f : Nat} {e : E} : Ws (.setf i c f e) δ En ↔ We e δ En.ex fun r δ => Wf r δ fun x δ => Wsetf i c f x (slotD δ i) δ En.nx := by
  rw [Ws_def, We_def, denS, wS_sX]
  refine iff_of_eq (congrArg _ (funext fun r => funext fun δ => ?_))
  rw [wS_frz]
  refine congrArg _ (funext fun x => funext fun δ => ?_)
  cases x with
  | pk n => rfl
  | val d =>
    rcases slotD δ i with _ | ⟨m, d'⟩
    · rfl
    · cases d' <;> first | rfl | skip
      rename_i c' ds
      dsimp only [Wsetf]
      by_cases e : (m = .ow ∨ m = .io) ∧ c' = c ∧ f ≤ ds.length
      · rw [if_pos e]; simp only [e, true_and]; rfl
      · rw [if_neg e]; simp only [e, false_and]; rfl
theorem Ws_expr {e : E} : Ws (.expr e) δ En ↔ We e δ En.ex fun _ δ => En.nx δ := by
  rw [Ws_def, We_def, denS, wS_sX]; rfl
theorem Ws_ife {c : E} {a b : Sts} : Ws (.ife c a b) δ En ↔ We c δ En.ex fun r δ => Wb r fun v => Wif v (Wss a δ En) (Wss b δ En) := by
  rw [Ws_def, We_def, denS, wS_sX, wO_bind]
  simp only [wO_isB, wS_bif, Wss_def]
theorem Ws_for {tg : List Nat} {src : Src} {body : Sts} : Ws (.for_ tg src body) δ En ↔ Wsrc src δ En.ex fun p δ1 => Wfor tg body p δ1 En := by
  rw [Ws_def, Wsrc_def, denS, wS_sX]
  refine iff_of_eq (congrArg _ (funext fun p => funext fun δ => propext ⟨fun h => ⟨h⟩, fun h => h.run⟩))
theorem Ws_while {c : E} {body : Sts} : Ws (.while_ c body) δ En ↔ Wwh c body FUEL δ En := by
  rw [Ws_def, denS]
  exact ⟨fun h => ⟨h⟩, fun h => h.run⟩
theorem Ws_ret {e : E} : Ws (.ret e) δ En ↔ We e δ En.ex En.rt := by
  rw [Ws_def, We_def, denS, wS_sX]; rfl
def Wretv (i : Nat) (o : Option (Md × D)) (δ : DSt) (P : R → DSt → Prop) : Prop := match o with
  | some (.fz, d) => P (.fz d) δ
  | some (.ow, d) => P (.fr d) (δ.set i none)
  | _ => False
theorem Ws_retv {i : Nat} : Ws (.retv i) δ En ↔ Wretv i (slotD δ i) δ En.rt := by
  rw [Ws_def, denS]
  rcases h : slotD δ i with _ | ⟨m, d⟩
  · exact Iff.rfl
  · cases m <;> exact Iff.rfl
theorem Ws_retn : Ws .retn δ En ↔ En.rt (.fz .non) δ := by rw [Ws_def, denS]; rfl
theorem Ws_brk : Ws .brk δ En ↔ En.bk δ := by rw [Ws_def, denS]; rfl
theorem Ws_cont : Ws .cont δ En ↔ En.ct δ := by rw [Ws_def, denS]; rfl
theorem Ws_pass : Ws .pass δ En ↔ En.nx δ := by rw [Ws_def, denS]; rfl
/-! the small ones -/
theorem Wunp_fz {is : List Nat} {d : D} {P : DSt → Prop} : Wunp is (.fz d) δ P = WJ (bindT is d δ) P := rfl
theorem WisL_lst {m : Md} {ds : List D} {P : Prop} : WisL (some (m, .lst ds)) P = P := rfl
theorem Wapp_ow {i : Nat} {d : D} {ds : List D} {P : DSt → Prop} : Wapp i (.val d) (some (.ow, .lst ds)) δ P = (ds.length < sizeL ∧ P (δ.set i (some (.ow, .lst (ds ++ [d]))))) := by simp [Wapp]
theorem Wapp_io {i : Nat} {d : D} {ds : List D} {P : DSt → Prop} : Wapp i (.val d) (some (.io, .lst ds)) δ P = (ds.length < sizeL ∧ P (δ.set i (some (.io, .lst (ds ++ [d]))))) := by simp [Wapp]
theorem Wseti_ow {i : Nat} {d : D} {j : Int} {ds : List D} {P : DSt → Prop} : Wseti i (.val d) j (some (.ow, .lst ds)) δ P = WJ (ixD ds.length j) fun n => P (δ.set i (some (.ow, .lst (ds.set n d)))) := by simp [Wseti]
theorem Wseti_io {i : Nat} {d : D} {j : Int} {ds : List D} {P : DSt → Prop} : Wseti i (.val d) j (some (.io, .lst ds)) δ P = WJ (ixD ds.length j) fun n => P (δ.set i (some (.io, .lst (ds.set n d)))) := by simp [Wseti]
theorem Wretv_fz {i : Nat} {d : D} {P : R → DSt → Prop} : Wretv i (some (.fz, d)) δ P = P (.fz d) δ := rfl
theorem Wretv_ow {i : Nat} {d : D} {P : R → DSt → Prop} : Wretv i (some (.ow, d)) δ P = P (.fr d) (δ.set i none) := rfl
theorem Wpop_io {i : Nat} {ds : List D} {k : R → DSt → Prop} : Wpop i (some (.io, .lst ds)) δ k = WJ ds.getLast? fun d => k (.fz d) (δ.set i (some (.io, .lst ds.dropLast))) := by simp [Wpop]
theorem Wpop_ow {i : Nat} {ds : List D} {k : R → DSt → Prop} : Wpop i (some (.ow, .lst ds)) δ k = WJ ds.getLast? fun d => k (.fz d) (δ.set i (some (.ow, .lst ds.dropLast))) := by simp [Wpop]
end
/-! ### loops -/
theorem wS_mono {o : OutS} {En En' : Ed} (h : wS o En) (h1 : ∀ δ, En.nx δ → En'.nx δ) (h2 : ∀ r δ, En.rt r δ → En'.rt r δ) (h3 : ∀ δ, En.bk δ → En'.bk δ) (h4 : ∀ δ, En.ct δ → En'.ct δ) (h5 : ∀ x δ, En.ex x δ → En'.ex x δ) : wS o En' := by
  cases o with
  | nx δ => exact h1 δ h
  | rt r δ => exact h2 r δ h
  | bk δ => exact h3 δ h
  | ct δ => exact h4 δ h
  | ex x δ => exact h5 x δ h
  | bad => exact h
theorem Wss.mono {m : Sts} {δ : DSt} {En En' : Ed} (h : Wss m δ En) (h1 : ∀ δ, En.nx δ → En'.nx δ) (h2 : ∀ r δ, En.rt r δ → En'.rt r δ) (h3 : ∀ δ, En.bk δ → En'.bk δ) (h4 : ∀ δ, En.ct δ → En'.ct δ) (h5 : ∀ x δ, En.ex x δ → En'.ex x δ) : Wss m δ En' := ⟨wS_mono h.run h1 h2 h3 h4 h5⟩
/-- a turn's end -/
def turnE (P : DSt → Prop) (δ1 : DSt) (l : Option Nat) (En : Ed) : Ed := ⟨P, fun r δ => En.rt r (openD δ1 δ l), fun δ => En.nx (openD δ1 δ l), P, fun x δ => En.ex x (openD δ1 δ l)⟩
theorem w_forL {tg : List Nat} {body : Sts} {δ1 : DSt} {l : Option Nat} {En : Ed} (P : List D → DSt → Prop) (ds : List D)
    (hs : ∀ pre x post δ, ds = pre ++ x :: post → P pre δ → WJ (bindT tg x δ) fun δ => Wss body δ (turnE (P (pre ++ [x])) δ1 l En)) (hd : ∀ δ, P ds δ → En.nx (openD δ1 δ l)) :
    ∀ (post pre : List D) (δ : DSt), ds = pre ++ post → P pre δ → wS ((forL tg (fun δ => denSs body δ) post δ).map fun δ2 => openD δ1 δ2 l) En
  | [], pre, δ, e, h => by
    rw [List.append_nil] at e
    rw [← e] at h
    exact hd δ h
  | x :: post, pre, δ, e, h => by
    have b := hs pre x post δ e h
    simp only [forL]
    cases q : bindT tg x δ with
    | none => rw [q, WJ_none] at b; exact b.elim
    | some δx =>
      rw [q, WJ_some] at b
      have b : wS (denSs body δx) (turnE (P (pre ++ [x])) δ1 l En) := b.run
      have e' : ds = (pre ++ [x]) ++ post := by rw [e]; simp
      dsimp only
      cases q2 : denSs body δx with
      | nx δ' => rw [q2] at b; exact w_forL P ds hs hd post _ δ' e' b
      | ct δ' => rw [q2] at b; exact w_forL P ds hs hd post _ δ' e' b
      | bk δ' => rw [q2] at b; exact b
      | rt r δ' => rw [q2] at b; exact b
      | ex x δ' => rw [q2] at b; exact b
      | bad => rw [q2] at b; exact b
/-- a for, by what holds behind each beginning of the walk -/
theorem Wfor.by {tg : List Nat} {body : Sts} {ds : List D} {l : Option Nat} {δ1 : DSt} {En : Ed} (P : List D → DSt → Prop) (h0 : P [] (lockD δ1 l))
    (hs : ∀ pre x post δ, ds = pre ++ x :: post → P pre δ → WJ (bindT tg x δ) fun δ => Wss body δ (turnE (P (pre ++ [x])) δ1 l En)) (hd : ∀ δ, P ds δ → En.nx (openD δ1 δ l)) : Wfor tg body (ds, l) δ1 En :=
  ⟨w_forL P ds hs hd ds [] _ rfl h0⟩
/-- a for over data of one kind -/
theorem Wfor.map {α : Type} {tg : List Nat} {body : Sts} {as : List α} {inj : α → D} {l : Option Nat} {δ1 : DSt} {En : Ed} (hinj : ∀ a b, inj a = inj b → a = b) (P : List α → DSt → Prop) (h0 : P [] (lockD δ1 l))
    (hs : ∀ p a q δ, as = p ++ a :: q → P p δ → WJ (bindT tg (inj a) δ) fun δ => Wss body δ (turnE (P (p ++ [a])) δ1 l En)) (hd : ∀ δ, P as δ → En.nx (openD δ1 δ l)) : Wfor tg body (as.map inj, l) δ1 En := by
  refine Wfor.by (fun pre δ => ∃ p, pre = p.map inj ∧ P p δ) ⟨[], rfl, h0⟩ ?_ ?_
  · rintro pre x post δ e ⟨p, rfl, hp⟩
    obtain ⟨p', r, e0, h1, h2⟩ := List.map_eq_append_iff.mp e
    cases r with
    | nil => cases h2
    | cons a q =>
      simp only [List.map_cons, List.cons.injEq] at h2
      obtain ⟨rfl, _⟩ := h2
      have : p' = p := (List.map_inj_right (fun x y => hinj x y)).mp h1
      subst this
      have b := hs p' a q δ e0 hp
      cases h : bindT tg (inj a) δ with
      | none => rw [h, WJ_none] at b; exact b.elim
      | some δx =>
        rw [h, WJ_some] at b
        rw [WJ_some]
        have b : Wss body δx (turnE (P (p' ++ [a])) δ1 l En) := b
        exact b.mono (fun δ h => ⟨p' ++ [a], by simp, h⟩) (fun _ _ h => h) (fun _ h => h) (fun δ h => ⟨p' ++ [a], by simp, h⟩) fun _ _ h => h
  · rintro δ ⟨p, hp, h⟩
    have : as = p := (List.map_inj_right (fun x y => hinj x y)).mp hp
    rw [← this] at h
    exact hd δ h
theorem chr_inj : ∀ a b : Nat, D.str [a] = D.str [b] → a = b := fun a b h => by simpa using h
/-- for j in range(n): by the number of turns done -/
theorem Wfor.rng {j : Nat} {body : Sts} {n : Nat} {lo : Int} {δ1 : DSt} {En : Ed} (P : Nat → DSt → Prop) (h0 : P 0 δ1)
    (hs : ∀ i δ, i < n → P i δ → Wss body (δ.set j (some (.fz, .int (lo + i)))) ⟨P (i + 1), En.rt, En.nx, P (i + 1), En.ex⟩) (hd : ∀ δ, P n δ → En.nx δ) : Wfor [j] body (intsD lo n, none) δ1 En := by
  refine Wfor.by (fun pre δ => P pre.length δ) h0 (fun pre x post δ e h => ?_) (fun δ h => hd δ (by simpa [intsD] using h))
  have hl : (intsD lo n).length = n := by simp [intsD]
  have hx : (intsD lo n)[pre.length]? = some x := by rw [e]; simp
  have hi : pre.length < n := by rw [← hl, e]; simp
  have : x = .int (lo + (pre.length : Int)) := by
    unfold intsD at hx
    rw [List.getElem?_map, List.getElem?_range hi] at hx
    exact (Option.some.inj hx).symm
  subst this
  rw [bindT, WJ_some]
  show Wss body _ _
  rw [List.length_append]
  exact hs pre.length δ hi h
/-- a while, by a measure -/
theorem Wwh.by {c : E} {body : Sts} {En : Ed} (P : Nat → DSt → Prop) (hs : ∀ m δ, P m δ → We c δ En.ex fun r δ' => Wb r fun b => Wif b (Wss body δ' ⟨fun δ => ∃ m', m' < m ∧ P m' δ, En.rt, En.nx, fun δ => ∃ m', m' < m ∧ P m' δ, En.ex⟩) (En.nx δ')) :
    ∀ (n m : Nat) (δ : DSt), m < n → P m δ → Wwh c body n δ En
  | 0, m, δ, hm, h => by omega
  | n + 1, m, δ, hm, h => by
    refine ⟨?_⟩
    have b := hs m δ h
    rw [We_def] at b
    simp only [whileL]
    rw [wS_sX, wO_bind]
    simp only [wO_isB, wS_bif]
    refine wO_mono b (fun r δ' b => ?_) fun _ _ h => h
    cases r with
    | fr d => exact b
    | fz d =>
      cases d <;> first | exact b | skip
      rename_i v
      refine ⟨fun e => ?_, fun e => b.2 e⟩
      have b := (b.1 e).run
      have go : ∀ δ, (∃ m', m' < m ∧ P m' δ) → wS (whileL (fun δ => (den c δ).bind isB) (fun δ => denSs body δ) n δ) En := fun δ ⟨m', h1, h2⟩ => (Wwh.by P hs n m' δ (by omega) h2).run
      cases q2 : denSs body δ' with
      | nx δ' => rw [q2] at b; exact go _ b
      | ct δ' => rw [q2] at b; exact go _ b
      | bk δ' => rw [q2] at b; exact b
      | rt r δ' => rw [q2] at b; exact b
      | ex x δ' => rw [q2] at b; exact b
      | bad => rw [q2] at b; exact b
/-! ### comprehensions -/
structure Wcomp (tg : List Nat) (cond : OE) (elt : E) (p : List D × Option Nat) (δ1 : DSt) (k : R → DSt → Prop) : Prop where
  run : wO (compL tg (denC cond) (fun δ => (den elt δ).bind fun r δ => (frz r δ).bind fun x δ => match res δ x with | some d => .ok d δ | none => .bad) p.1 [] (wipeD tg (lockD δ1 p.2))) (fun _ _ => False) fun ds δ2 => k (.fr (.lst ds)) (openD δ1 (backW tg δ1 δ2) p.2)
theorem wO_noEx {α : Type} {o : Out α} {t : Ex → DSt → Prop} {k : α → DSt → Prop} : wO (noEx o) t k = wO o (fun _ _ => False) k := by cases o <;> rfl
theorem We_comp {tg : List Nat} {src : Src} {cond : OE} {elt : E} {δ : DSt} {t : Ex → DSt → Prop} {k : R → DSt → Prop} :
    We (.comp tg src cond elt) δ t k ↔ Wsrc src δ (fun _ _ => False) fun p δ1 => freeT tg δ1 = true ∧ Wcomp tg cond elt p δ1 k := by
  rw [We_def, Wsrc_def, den, wO_noEx, wO_bind]
  refine iff_of_eq (congrArg _ (funext fun p => funext fun δ1 => propext ?_))
  by_cases h : freeT tg δ1 = true
  · rw [if_pos h, wO_bind]
    exact ⟨fun z => ⟨h, ⟨z⟩⟩, fun z => z.2.run⟩
  · rw [if_neg h]
    exact ⟨fun z => z.elim, fun z => (h z.1).elim⟩
/-- one turn: what it adds -/
def Wturn (cond : OE) (elt : E) (δ : DSt) (k : Option D → DSt → Prop) : Prop :=
  match cond with
  | .none => We elt δ (fun _ _ => False) fun r δ => Wf r δ fun x δ => WJ (res δ x) fun d => k (some d) δ
  | .some c => We c δ (fun _ _ => False) fun r δ => Wb r fun b => Wif b (We elt δ (fun _ _ => False) fun r δ => Wf r δ fun x δ => WJ (res δ x) fun d => k (some d) δ) (k none δ)
theorem Wturn_none {elt : E} {δ : DSt} {k : Option D → DSt → Prop} : Wturn .none elt δ k = We elt δ (fun _ _ => False) fun r δ => Wf r δ fun x δ => WJ (res δ x) fun d => k (some d) δ := rfl
theorem Wturn_some {c elt : E} {δ : DSt} {k : Option D → DSt → Prop} : Wturn (.some c) elt δ k = We c δ (fun _ _ => False) fun r δ => Wb r fun b => Wif b (We elt δ (fun _ _ => False) fun r δ => Wf r δ fun x δ => WJ (res δ x) fun d => k (some d) δ) (k none δ) := rfl
def accO (acc : List D) : Option D → List D
  | some d => acc ++ [d]
  | none => acc
theorem accO_some {acc : List D} {d : D} : accO acc (some d) = acc ++ [d] := rfl
theorem accO_none {acc : List D} : accO acc none = acc := rfl
theorem w_compL {tg : List Nat} {cond : OE} {elt : E} {k : List D → DSt → Prop} (P : List D → List D → DSt → Prop) (ds : List D) (hz : ds.length ≤ sizeL)
    (hs : ∀ pre x post acc δ, ds = pre ++ x :: post → P pre acc δ → WJ (bindT tg x (wipeD tg δ)) fun δ => Wturn cond elt δ fun o δ' => P (pre ++ [x]) (accO acc o) δ') (hd : ∀ acc δ, P ds acc δ → k acc δ) :
    ∀ (post pre acc : List D) (δ : DSt), acc.length ≤ pre.length → ds = pre ++ post → P pre acc δ →
      wO (compL tg (denC cond) (fun δ => (den elt δ).bind fun r δ => (frz r δ).bind fun x δ => match res δ x with | some d => .ok d δ | none => .bad) post acc δ) (fun _ _ => False) k
  | [], pre, acc, δ, hl, e, h => by
    rw [List.append_nil] at e
    rw [← e] at h
    exact hd acc δ h
  | x :: post, pre, acc, δ, hl, e, h => by
    have b := hs pre x post acc δ e h
    have e' : ds = (pre ++ [x]) ++ post := by rw [e]; simp
    have hlt : acc.length < sizeL := by
      have : ds.length = pre.length + (post.length + 1) := by rw [e]; simp
      omega
    simp only [compL]
    cases q : bindT tg x (wipeD tg δ) with
    | none => rw [q, WJ_none] at b; exact b.elim
    | some δx =>
      rw [q, WJ_some] at b
      dsimp only
      have b : Wturn cond elt δx fun o δ' => P (pre ++ [x]) (accO acc o) δ' := b
      have go : ∀ o δ', P (pre ++ [x]) (accO acc o) δ' → wO (compL tg (denC cond) (fun δ => (den elt δ).bind fun r δ => (frz r δ).bind fun x δ => match res δ x with | some d => .ok d δ | none => .bad) post (accO acc o) δ') (fun _ _ => False) k := fun o δ' h' =>
        w_compL P ds hz hs hd post (pre ++ [x]) _ δ' (by cases o <;> simp [accO] <;> omega) e' h'
      have elem : ∀ δ, (We elt δ (fun _ _ => False) fun r δ => Wf r δ fun y δ => WJ (res δ y) fun d => P (pre ++ [x]) (accO acc (some d)) δ) →
          wO (((den elt δ).bind fun r δ => (frz r δ).bind fun x δ => match res δ x with | some d => .ok d δ | none => .bad).bind fun d δ => if acc.length < sizeL then compL tg (denC cond) (fun δ => (den elt δ).bind fun r δ => (frz r δ).bind fun x δ => match res δ x with | some d => .ok d δ | none => .bad) post (acc ++ [d]) δ else .bad) (fun _ _ => False) k := by
        intro δ hE
        rw [We_def] at hE
        rw [wO_bind, wO_bind]
        refine wO_mono hE (fun r δ hE => ?_) fun _ _ h => h
        rw [wO_bind, wO_frz]
        unfold Wf at hE ⊢
        cases r with
        | fz d =>
          show wO (if acc.length < sizeL then _ else _) _ _
          rw [if_pos hlt]
          exact go (some d) δ hE.run
        | fr d =>
          refine ⟨hE.1, ?_⟩
          have hE := hE.2
          show wO (if acc.length < sizeL then _ else _) _ _
          rw [if_pos hlt]
          exact go (some d) δ hE.run
      cases cond with
      | none => exact elem δx b
      | some c =>
        simp only [denC]
        rw [wO_bind, wO_bind]
        have b := We_def.mp b
        refine wO_mono b (fun r δ b => ?_) fun _ _ h => h
        rw [wO_isB]
        cases r with
        | fr d => exact b
        | fz d =>
          cases d <;> first | exact b | skip
          rename_i v
          have b : Wif v _ _ := b
          show wO (if v = true then _ else _) _ _
          cases v with
          | true => rw [if_pos rfl]; exact elem δ (b.1 rfl)
          | false => rw [if_neg (by decide)]; exact go none δ (b.2 rfl)
theorem Wcomp.by {tg : List Nat} {cond : OE} {elt : E} {ds : List D} {l : Option Nat} {δ1 : DSt} {k : R → DSt → Prop} (P : List D → List D → DSt → Prop) (hz : ds.length ≤ sizeL) (h0 : P [] [] (wipeD tg (lockD δ1 l)))
    (hs : ∀ pre x post acc δ, ds = pre ++ x :: post → P pre acc δ → WJ (bindT tg x (wipeD tg δ)) fun δ => Wturn cond elt δ fun o δ' => P (pre ++ [x]) (accO acc o) δ') (hd : ∀ acc δ, P ds acc δ → k (.fr (.lst acc)) (openD δ1 (backW tg δ1 δ) l)) :
    Wcomp tg cond elt (ds, l) δ1 k :=
  ⟨w_compL (k := fun ds δ2 => k (.fr (.lst ds)) (openD δ1 (backW tg δ1 δ2) l)) P ds hz hs hd ds [] [] _ (Nat.le_refl 0) rfl h0⟩
/-! slots given anew together -/
theorem setAll_get {g : Nat → Sl} : ∀ (tg : List Nat) (δ : DSt) (j : Nat), (tg.foldl (fun δ i => δ.set i (g i)) δ)[j]? = if j ∈ tg ∧ j < δ.length then some (g j) else δ[j]?
  | [], δ, j => by simp
  | i :: tg, δ, j => by
    rw [List.foldl_cons, setAll_get tg, List.length_set, List.getElem?_set]
    by_cases h1 : j ∈ tg
    · by_cases h2 : j < δ.length
      · simp [h1, h2]
      · by_cases h3 : i = j
        · subst h3; simp [h1, h2]
        · simp [h1, h2, h3]
    · by_cases h3 : i = j
      · subst h3
        by_cases h2 : i < δ.length
        · simp [h1, h2]
        · simp [h1, h2]
      · have : ¬ j = i := fun z => h3 z.symm
        simp [h1, h3, this]
theorem setAll_len {g : Nat → Sl} : ∀ (tg : List Nat) (δ : DSt), (tg.foldl (fun δ i => δ.set i (g i)) δ).length = δ.length
  | [], δ => rfl
  | i :: tg, δ => by rw [List.foldl_cons, setAll_len tg, List.length_set]
theorem wipe_len (tg : List Nat) (δ : DSt) : (wipeD tg δ).length = δ.length := setAll_len (g := fun _ => none) tg δ
theorem back_wipe (tg : List Nat) (δ0 δ : DSt) : backW tg δ0 (wipeD tg δ) = backW tg δ0 δ := by
  refine List.ext_getElem? fun j => ?_
  unfold backW
  rw [setAll_get (g := fun i => (δ0[i]?).join), setAll_get (g := fun i => (δ0[i]?).join), wipe_len]
  by_cases h : j ∈ tg ∧ j < δ.length
  · rw [if_pos h, if_pos h]
  · rw [if_neg h, if_neg h]
    unfold wipeD
    rw [setAll_get (g := fun _ => none), if_neg h]
/-- a comprehension whose turns change nothing: each item gives what f says -/
theorem Wcomp.fm {α : Type} {tg : List Nat} {cond : OE} {elt : E} {l : Option Nat} {δ1 σ : DSt} {k : R → DSt → Prop} {ds : List D} (as : List α) (inj : α → D) (f : α → Option D) (hd : ds = as.map inj) (hz : as.length ≤ sizeL) (hσ : wipeD tg (lockD δ1 l) = σ) (h0 : wipeD tg σ = σ)
    (hs : ∀ a ∈ as, WJ (bindT tg (inj a) σ) fun δ => Wturn cond elt δ fun o δ' => o = f a ∧ wipeD tg δ' = σ) (h2 : openD δ1 (backW tg δ1 σ) l = δ1) (hk : k (.fr (.lst (as.filterMap f))) δ1) : Wcomp tg cond elt (ds, l) δ1 k := by
  subst hd
  refine Wcomp.by (fun pre acc δ => wipeD tg δ = σ ∧ acc = (as.take pre.length).filterMap f) (by rw [List.length_map]; exact hz) ⟨by rw [hσ, h0], rfl⟩ ?_ ?_
  · rintro pre x post acc δ e ⟨hw, rfl⟩
    have hm : ∃ a, a ∈ as ∧ x = inj a ∧ as.take (pre ++ [x]).length = as.take pre.length ++ [a] := by
      have hx : (as.map inj)[pre.length]? = some x := by rw [e]; simp
      rw [List.getElem?_map, Option.map_eq_some_iff] at hx
      obtain ⟨a, ha, rfl⟩ := hx
      refine ⟨a, List.mem_of_getElem? ha, rfl, ?_⟩
      rw [List.length_append, List.length_singleton, List.take_succ, ha]
      rfl
    obtain ⟨a, ha, rfl, hp⟩ := hm
    have b := hs a ha
    rw [hw]
    cases q : bindT tg (inj a) σ with
    | none => rw [q, WJ_none] at b; exact b.elim
    | some δx =>
      rw [q, WJ_some] at b
      rw [WJ_some]
      have b : Wturn cond elt δx fun o δ' => o = f a ∧ wipeD tg δ' = σ := b
      show Wturn cond elt δx fun o δ' => wipeD tg δ' = σ ∧ accO ((as.take pre.length).filterMap f) o = (as.take (pre ++ [inj a]).length).filterMap f
      have hacc : ∀ o δ', (o = f a ∧ wipeD tg δ' = σ) → wipeD tg δ' = σ ∧ accO ((as.take pre.length).filterMap f) o = (as.take (pre ++ [inj a]).length).filterMap f := by
        rintro o δ' ⟨rfl, hw'⟩
        refine ⟨hw', ?_⟩
        rw [hp, List.filterMap_append]
        cases h : f a <;> simp [accO, h]
      have mW : ∀ δ, (We elt δ (fun _ _ => False) fun r δ => Wf r δ fun x δ => WJ (res δ x) fun d => some d = f a ∧ wipeD tg δ = σ) →
          We elt δ (fun _ _ => False) fun r δ => Wf r δ fun x δ => WJ (res δ x) fun d => wipeD tg δ = σ ∧ accO ((as.take pre.length).filterMap f) (some d) = (as.take (pre ++ [inj a]).length).filterMap f := by
        intro δ h
        refine ⟨wO_mono h.run (fun r δ h => ?_) fun _ _ h => h⟩
        cases r with
        | fz d => exact ⟨hacc (some d) δ h.run⟩
        | fr d => exact ⟨h.1, ⟨hacc (some d) δ h.2.run⟩⟩
      cases cond with
      | none => exact mW δx b
      | some c =>
        refine ⟨wO_mono (We_def.mp b) (fun r δ b => ?_) fun _ _ h => h⟩
        cases r with
        | fr d => exact b
        | fz d =>
          cases d <;> first | exact b | skip
          exact ⟨fun z => mW δ (b.1 z), fun z => hacc none δ (b.2 z)⟩
  · rintro acc δ ⟨hw, rfl⟩
    rw [← back_wipe, hw, h2, List.length_map, List.take_length]
    exact hk
/-! ### defs -/
theorem runF_by {np n : Nat} {body : Sts} {xs : List (Md × D)} {Q : R → List D → Prop} (hl : xs.length = np)
    (h : Wss body (xs.map some ++ List.replicate (n - np) none) ⟨fun δ => WJ (outsOf δ xs 0) fun outs => Q (.fz .non) outs, fun r δ => WJ (outsOf δ xs 0) fun outs => Q r outs, fun _ => False, fun _ => False, fun _ _ => False⟩) : ∃ r outs, runF np n body xs = .ok r outs ∧ Q r outs := by
  have h := h.run
  unfold runF
  rw [if_pos hl]
  cases q : denSs body (xs.map some ++ List.replicate (n - np) none) with
  | nx δ =>
    rw [q] at h
    have h : WJ (outsOf δ xs 0) _ := h
    dsimp only
    cases q2 : outsOf δ xs 0 with
    | none => rw [q2, WJ_none] at h; exact h.elim
    | some outs => rw [q2, WJ_some] at h; exact ⟨_, _, rfl, h⟩
  | rt r δ =>
    rw [q] at h
    have h : WJ (outsOf δ xs 0) _ := h
    dsimp only
    cases q2 : outsOf δ xs 0 with
    | none => rw [q2, WJ_none] at h; exact h.elim
    | some outs => rw [q2, WJ_some] at h; exact ⟨_, _, rfl, h⟩
  | bk δ => rw [q] at h; exact h.elim
  | ct δ => rw [q] at h; exact h.elim
  | ex x δ => rw [q] at h; exact h.elim
  | bad => rw [q] at h; exact h.elim
/-- the same, what is wanted at the end kept apart -/
theorem runF_to {np n : Nat} {body : Sts} {xs : List (Md × D)} (Q : R → List D → Prop) (hl : xs.length = np)
    (h : ∀ En : Ed, (∀ r δ, WJ (outsOf δ xs 0) (fun outs => Q r outs) → En.rt r δ) → (∀ δ, WJ (outsOf δ xs 0) (fun outs => Q (.fz .non) outs) → En.nx δ) → Wss body (xs.map some ++ List.replicate (n - np) none) En) : ∃ r outs, runF np n body xs = .ok r outs ∧ Q r outs :=
  runF_by hl (h _ (fun _ _ h => h) fun _ h => h)
theorem runF_eq {np n : Nat} {body : Sts} {xs : List (Md × D)} {r : R} {outs : List D} (hl : xs.length = np)
    (h : Wss body (xs.map some ++ List.replicate (n - np) none) ⟨fun δ => WJ (outsOf δ xs 0) fun outs' => R.fz .non = r ∧ outs' = outs, fun r' δ => WJ (outsOf δ xs 0) fun outs' => r' = r ∧ outs' = outs, fun _ => False, fun _ => False, fun _ _ => False⟩) : runF np n body xs = .ok r outs := by
  obtain ⟨r', outs', e, rfl, rfl⟩ := runF_by (Q := fun r' outs' => r' = r ∧ outs' = outs) hl h
  exact e
end Z

set_option Elab.async false
set_option linter.all false
set_option maxHeartbeats 1000000
/-! ZK: level 2, the primitives, one row each. -/
namespace Z
open PySem
theorem k1_len_str {s : List Nat} (h : s.length ≤ sizeL) : k1 .len (.str s) = some (.fz (.int s.length)) := by simp only [k1, h, if_true]
theorem k1_len_tup {s : List D} : k1 .len (.tup s) = some (.fz (.int s.length)) := rfl
theorem k1_len_lst {s : List D} : k1 .len (.lst s) = some (.fz (.int s.length)) := rfl
theorem k1_len_frl {s : List D} : k1 .len (.frl s) = some (.fz (.int s.length)) := rfl
theorem k1_abs {i : Int} : k1 .abs (.int i) = some (.fz (.int (if i < 0 then -i else i))) := rfl
theorem k1_neg {i : Int} : k1 .neg (.int i) = some (.fz (.int (-i))) := rfl
theorem k1_int {i : Int} : k1 .int (.int i) = some (.fz (.int i)) := rfl
theorem k1_intb {b : Bool} : k1 .int (.bl b) = some (.fz (.int (if b then 1 else 0))) := rfl
theorem k1_tuple_lst {s : List D} : k1 .tuple (.lst s) = some (.fz (.tup s)) := rfl
theorem k1_tuple_tup {s : List D} : k1 .tuple (.tup s) = some (.fz (.tup s)) := rfl
theorem k1_list_lst {s : List D} : k1 .list (.lst s) = some (.fr (.lst s)) := rfl
theorem k1_list_tup {s : List D} : k1 .list (.tup s) = some (.fr (.lst s)) := rfl
theorem k1_rev {s : List D} : k1 .rev (.lst s) = some (.fr (.lst s.reverse)) := rfl
theorem k1_isN {d : D} : k1 .isN d = some (.fz (.bl (match d with | .non => true | _ => false))) := by cases d <;> rfl
theorem k1_notN {d : D} : k1 .notN d = some (.fz (.bl (match d with | .non => false | _ => true))) := by cases d <;> rfl
theorem k1_isT {b : Bool} : k1 .isT (.bl b) = some (.fz (.bl b)) := rfl
theorem k1_notT {b : Bool} : k1 .notT (.bl b) = some (.fz (.bl (!b))) := rfl
theorem k2_muls {s : List Nat} {i : Int} (h0 : 0 ≤ i) (h1 : i ≤ 1000) (h2 : s.length ≤ 1000) : k2 .mul (.str s) (.int i) = some (.fz (.str (List.replicate i.toNat s).flatten)) := by simp only [k2]; rw [if_pos ⟨h0, h1, h2⟩]
theorem k2_add {i j : Int} : k2 .add (.int i) (.int j) = some (.fz (.int (i + j))) := rfl
theorem k2_add_str {s t : List Nat} (h : s.length + t.length ≤ sizeL) : k2 .add (.str s) (.str t) = some (.fz (.str (s ++ t))) := by simp only [k2, h, if_true]
theorem k2_add_lst {s t : List D} (h : s.length + t.length ≤ sizeL) : k2 .add (.lst s) (.lst t) = some (.fr (.lst (s ++ t))) := by simp only [k2, h, if_true]
theorem k2_sub {i j : Int} : k2 .sub (.int i) (.int j) = some (.fz (.int (i - j))) := rfl
theorem k2_mul {i j : Int} (h : (int64 i || int64 j) = true) : k2 .mul (.int i) (.int j) = some (.fz (.int (i * j))) := by simp only [k2, h, if_true]
theorem k2_fdiv {i j : Int} (h : 0 < j) (h' : j < 1073741824) : k2 .fdiv (.int i) (.int j) = some (.fz (.int (i / j))) := by
  simp only [k2, h, h', decide_true, Bool.and_self, if_true]
theorem k2_mod {i j : Int} (h : 0 < j) : k2 .mod (.int i) (.int j) = some (.fz (.int (i % j))) := by
  simp only [k2, h, decide_true, if_true]
theorem k2_pow {i j : Int} (h : (decide (0 ≤ j) && decide (j ≤ 1000) && int64 i && int64 (-i)) = true) : k2 .pow (.int i) (.int j) = some (.fz (.int (i ^ j.toNat))) := by
  simp only [k2]; rw [if_pos h]
theorem k2_pow6 : k2 .pow (.int 10) (.int 6) = some (.fz (.int 1000000)) := k2_pow (by decide)
theorem k2_pow18 : k2 .pow (.int 10) (.int 18) = some (.fz (.int 1000000000000000000)) := k2_pow (by decide)
theorem k2_pow12 : k2 .pow (.int 10) (.int 12) = some (.fz (.int 1000000000000)) := k2_pow (by decide)
theorem k2_lt {i j : Int} : k2 .lt (.int i) (.int j) = some (.fz (.bl (decide (i < j)))) := rfl
theorem k2_le {i j : Int} : k2 .le (.int i) (.int j) = some (.fz (.bl (decide (i ≤ j)))) := rfl
theorem k2_gt {i j : Int} : k2 .gt (.int i) (.int j) = some (.fz (.bl (decide (j < i)))) := rfl
theorem k2_ge {i j : Int} : k2 .ge (.int i) (.int j) = some (.fz (.bl (decide (j ≤ i)))) := rfl
theorem k2_eq {a b : D} : k2 .eq a b = (eqD a b).map fun c => .fz (.bl c) := rfl
theorem k2_ne {a b : D} : k2 .ne a b = (eqD a b).map fun c => .fz (.bl (!c)) := rfl
theorem k2_in {a b : D} : k2 .in_ a b = (inD a b).map fun c => .fz (.bl c) := rfl
theorem k2_notin {a b : D} : k2 .notin a b = (inD a b).map fun c => .fz (.bl (!c)) := rfl
theorem k2_idx {a b : D} : k2 .idx a b = (idxD a b).map .fz := rfl
theorem k2_max {i j : Int} : k2 .max (.int i) (.int j) = some (.fz (.int (if j > i then j else i))) := rfl
theorem idx_lst {ds : List D} {i : Int} : idxD (.lst ds) (.int i) = (ixD ds.length i).bind fun j => ds[j]? := rfl
theorem idx_tup {ds : List D} {i : Int} : idxD (.tup ds) (.int i) = (ixD ds.length i).bind fun j => ds[j]? := rfl
theorem idx_str {s : List Nat} {i : Int} (h : s.length ≤ sizeL) : idxD (.str s) (.int i) = (ixD s.length i).bind fun j => (s[j]?).map fun c => .str [c] := by simp only [idxD, h, if_true]
theorem ixD_nat {n i : Nat} (h : i < n) : ixD n (i : Int) = some i := by
  unfold ixD
  rw [if_pos (by omega), if_pos (by omega)]
  rfl
theorem int64_lit {i : Int} (h : i.natAbs < 18446744073709551616) : int64 i = true := decide_eq_true h
theorem range62_lit {i : Int} (h : i.natAbs < 4611686018427387904) : range62 i = true := decide_eq_true h
theorem size_le {n : Nat} (h : n ≤ 16777216) : n ≤ sizeL := h
theorem slc_str {s : List Nat} {lo hi : Option Int} (h : s.length ≤ sizeL) : slcD (.str s) lo hi = some (.fz (.str (cutD s lo hi))) := by simp only [slcD, h, if_true]
theorem slc_lst {s : List D} {lo hi : Option Int} : slcD (.lst s) lo hi = some (.fr (.lst (cutD s lo hi))) := rfl
theorem slc_frl {s : List D} {lo hi : Option Int} : slcD (.frl s) lo hi = some (.fr (.lst (cutD s lo hi))) := rfl
theorem seq_lst {ds : List D} : seqD (.lst ds) = some ds := rfl
theorem seq_tup {ds : List D} : seqD (.tup ds) = some ds := rfl
theorem seq_str {s : List Nat} : seqD (.str s) = some (s.map fun c => .str [c]) := rfl
theorem lockD_n {δ : DSt} : lockD δ none = δ := rfl
theorem lockD_s {δ : DSt} {i : Nat} : lockD δ (some i) = match slotD δ i with | some (.fz, _) => δ | some (_, d) => δ.set i (some (.lk, d)) | none => δ := rfl
theorem openD_n {δ0 δ : DSt} : openD δ0 δ none = δ := rfl
theorem openD_s {δ0 δ : DSt} {i : Nat} : openD δ0 δ (some i) = match slotD δ i with | some (.lk, _) => δ.set i ((δ0[i]?).join) | _ => δ := rfl
theorem bindT_1 {i : Nat} {x : D} {δ : DSt} : bindT [i] x δ = some (δ.set i (some (.fz, x))) := rfl
theorem bindT_2 {i j : Nat} {is : List Nat} {x : D} {δ : DSt} : bindT (i :: j :: is) x δ = bindM (i :: j :: is) x δ := rfl
theorem ki_int_int {i : Int} : kiD (.int i) .int = some true := Eq.trans rfl rfl
theorem ki_int_str {i : Int} : kiD (.int i) .str = some false := Eq.trans rfl rfl
theorem ki_int_bool {i : Int} : kiD (.int i) .bool = some false := Eq.trans rfl rfl
theorem ki_int_list {i : Int} : kiD (.int i) .list = some false := Eq.trans rfl rfl
theorem ki_int_tuple {i : Int} : kiD (.int i) .tuple = some false := Eq.trans rfl rfl
theorem ki_int_dict {i : Int} : kiD (.int i) .dict = some false := Eq.trans rfl rfl
theorem ki_bl_int {i : Bool} : kiD (.bl i) .int = some true := Eq.trans rfl rfl
theorem ki_bl_str {i : Bool} : kiD (.bl i) .str = some false := Eq.trans rfl rfl
theorem ki_bl_bool {i : Bool} : kiD (.bl i) .bool = some true := Eq.trans rfl rfl
theorem ki_bl_list {i : Bool} : kiD (.bl i) .list = some false := Eq.trans rfl rfl
theorem ki_bl_tuple {i : Bool} : kiD (.bl i) .tuple = some false := Eq.trans rfl rfl
theorem ki_bl_dict {i : Bool} : kiD (.bl i) .dict = some false := Eq.trans rfl rfl
theorem ki_str_int {i : List Nat} : kiD (.str i) .int = some false := Eq.trans rfl rfl
theorem ki_str_str {i : List Nat} : kiD (.str i) .str = some true := Eq.trans rfl rfl
theorem ki_str_bool {i : List Nat} : kiD (.str i) .bool = some false := Eq.trans rfl rfl
theorem ki_str_list {i : List Nat} : kiD (.str i) .list = some false := Eq.trans rfl rfl
theorem ki_str_tuple {i : List Nat} : kiD (.str i) .tuple = some false := Eq.trans rfl rfl
theorem ki_str_dict {i : List Nat} : kiD (.str i) .dict = some false := Eq.trans rfl rfl
theorem ki_lst_int {i : List D} : kiD (.lst i) .int = some false := Eq.trans rfl rfl
theorem ki_lst_str {i : List D} : kiD (.lst i) .str = some false := Eq.trans rfl rfl
theorem ki_lst_bool {i : List D} : kiD (.lst i) .bool = some false := Eq.trans rfl rfl
theorem ki_lst_list {i : List D} : kiD (.lst i) .list = some true := Eq.trans rfl rfl
theorem ki_lst_tuple {i : List D} : kiD (.lst i) .tuple = some false := Eq.trans rfl rfl
theorem ki_lst_dict {i : List D} : kiD (.lst i) .dict = some false := Eq.trans rfl rfl
theorem ki_frl_int {i : List D} : kiD (.frl i) .int = some false := Eq.trans rfl rfl
theorem ki_frl_str {i : List D} : kiD (.frl i) .str = some false := Eq.trans rfl rfl
theorem ki_frl_bool {i : List D} : kiD (.frl i) .bool = some false := Eq.trans rfl rfl
theorem ki_frl_list {i : List D} : kiD (.frl i) .list = some true := Eq.trans rfl rfl
theorem ki_frl_tuple {i : List D} : kiD (.frl i) .tuple = some false := Eq.trans rfl rfl
theorem ki_frl_dict {i : List D} : kiD (.frl i) .dict = some false := Eq.trans rfl rfl
theorem ki_tup_int {i : List D} : kiD (.tup i) .int = some false := Eq.trans rfl rfl
theorem ki_tup_str {i : List D} : kiD (.tup i) .str = some false := Eq.trans rfl rfl
theorem ki_tup_bool {i : List D} : kiD (.tup i) .bool = some false := Eq.trans rfl rfl
theorem ki_tup_list {i : List D} : kiD (.tup i) .list = some false := Eq.trans rfl rfl
theorem ki_tup_tuple {i : List D} : kiD (.tup i) .tuple = some true := Eq.trans rfl rfl
theorem ki_tup_dict {i : List D} : kiD (.tup i) .dict = some false := Eq.trans rfl rfl
theorem ki_dct_int {i : List (D × D)} : kiD (.dct i) .int = some false := Eq.trans rfl rfl
theorem ki_dct_str {i : List (D × D)} : kiD (.dct i) .str = some false := Eq.trans rfl rfl
theorem ki_dct_bool {i : List (D × D)} : kiD (.dct i) .bool = some false := Eq.trans rfl rfl
theorem ki_dct_list {i : List (D × D)} : kiD (.dct i) .list = some false := Eq.trans rfl rfl
theorem ki_dct_tuple {i : List (D × D)} : kiD (.dct i) .tuple = some false := Eq.trans rfl rfl
theorem ki_dct_dict {i : List (D × D)} : kiD (.dct i) .dict = some true := Eq.trans rfl rfl
theorem ki_non_int : kiD .non .int = some false := Eq.trans rfl rfl
theorem ki_non_str : kiD .non .str = some false := Eq.trans rfl rfl
theorem ki_non_bool : kiD .non .bool = some false := Eq.trans rfl rfl
theorem ki_non_list : kiD .non .list = some false := Eq.trans rfl rfl
theorem ki_non_tuple : kiD .non .tuple = some false := Eq.trans rfl rfl
theorem ki_non_dict : kiD .non .dict = some false := Eq.trans rfl rfl
theorem kis_nil {d : D} : kisD d [] = some false := Eq.trans rfl rfl
theorem kis_t {d : D} {k : Ki} {ks : List Ki} (h : kiD d k = some true) : kisD d (k :: ks) = some true := by simp only [kisD, h]
theorem kis_f {d : D} {k : Ki} {ks : List Ki} (h : kiD d k = some false) : kisD d (k :: ks) = kisD d ks := by simp only [kisD, h]
theorem intsD_eq {lo : Int} {n : Nat} : intsD lo n = (List.range n).map fun (i : Nat) => D.int (lo + i) := rfl
theorem str_get {m : List Nat} {i : Nat} (hm : m.length ≤ sizeL) (h : i < m.length) : idxD (.str m) (.int i) = some (.str [m[i]]) := by
  rw [idx_str hm, ixD_nat h]
  simp [h]
theorem lst_get {m : List D} {i : Nat} (h : i < m.length) : idxD (.lst m) (.int i) = some m[i] := by
  rw [idx_lst, ixD_nat h]
  simp [h]
theorem tup_get {m : List D} {i : Nat} (h : i < m.length) : idxD (.tup m) (.int i) = some m[i] := by
  rw [idx_tup, ixD_nat h]
  simp [h]
/-- a slot that holds nothing of ours -/
def fzs (o : Option D) : Sl := o.map fun d => (.fz, d)
def freeT1 (s : Sl) : Bool := match s with
  | none => true
  | some (.fz, _) => true
  | _ => false
theorem freeT_nil {δ : DSt} : freeT [] δ = true := rfl
theorem freeT_cons {i : Nat} {tg : List Nat} {δ : DSt} : freeT (i :: tg) δ = (freeT1 (slotD δ i) && freeT tg δ) := rfl
theorem freeT1_none : freeT1 none = true := rfl
theorem freeT1_fz {d : D} : freeT1 (some (.fz, d)) = true := rfl
theorem freeT1_fzs {o : Option D} : freeT1 (fzs o) = true := by cases o <;> rfl
theorem fzs_some {d : D} : fzs (some d) = some (.fz, d) := rfl
theorem turnE_nx {P : DSt → Prop} {δ1 δ : DSt} {l : Option Nat} {En : Ed} : (turnE P δ1 l En).nx δ = P δ := rfl
theorem turnE_ct {P : DSt → Prop} {δ1 δ : DSt} {l : Option Nat} {En : Ed} : (turnE P δ1 l En).ct δ = P δ := rfl
theorem turnE_rt {P : DSt → Prop} {δ1 δ : DSt} {l : Option Nat} {En : Ed} {r : R} : (turnE P δ1 l En).rt r δ = En.rt r (openD δ1 δ l) := rfl
theorem turnE_bk {P : DSt → Prop} {δ1 δ : DSt} {l : Option Nat} {En : Ed} : (turnE P δ1 l En).bk δ = En.nx (openD δ1 δ l) := rfl
theorem idx_0 {a : D} {ds : List D} : idxD (.lst (a :: ds)) (.int 0) = some a := lst_get (m := a :: ds) (i := 0) (by simp)
theorem idx_1 {a b : D} {ds : List D} : idxD (.lst (a :: b :: ds)) (.int 1) = some b := lst_get (m := a :: b :: ds) (i := 1) (by simp)
theorem idx_2 {a b c : D} {ds : List D} : idxD (.lst (a :: b :: c :: ds)) (.int 2) = some c := lst_get (m := a :: b :: c :: ds) (i := 2) (by simp)
theorem idx_3 {a b c d : D} {ds : List D} : idxD (.lst (a :: b :: c :: d :: ds)) (.int 3) = some d := lst_get (m := a :: b :: c :: d :: ds) (i := 3) (by simp)
theorem idt_0 {a : D} {ds : List D} : idxD (.tup (a :: ds)) (.int 0) = some a := tup_get (m := a :: ds) (i := 0) (by simp)
theorem idt_1 {a b : D} {ds : List D} : idxD (.tup (a :: b :: ds)) (.int 1) = some b := tup_get (m := a :: b :: ds) (i := 1) (by simp)
theorem idt_2 {a b c : D} {ds : List D} : idxD (.tup (a :: b :: c :: ds)) (.int 2) = some c := tup_get (m := a :: b :: c :: ds) (i := 2) (by simp)
theorem idt_3 {a b c d : D} {ds : List D} : idxD (.tup (a :: b :: c :: d :: ds)) (.int 3) = some d := tup_get (m := a :: b :: c :: d :: ds) (i := 3) (by simp)
theorem str_0 {c : Nat} {s : List Nat} (h : (c :: s).length ≤ sizeL) : idxD (.str (c :: s)) (.int 0) = some (.str [c]) := str_get (m := c :: s) (i := 0) h (by simp)
/-- one of a list -/
theorem menu {ds : List D} {v : Nat} (h : v < ds.length) : ∃ x, x ∈ ds ∧ idxD (.lst ds) (.int v) = some x := by
  refine ⟨ds[v], List.getElem_mem h, ?_⟩
  rw [idx_lst, ixD_nat h]
  simp [h]
theorem zipD_str {m : List Nat} {xs : List D} : zipD (m.map fun c => .str [c]) xs = (m.zip xs).map fun p => .tup [.str [p.1], p.2] := by
  unfold zipD
  rw [List.zip_map_left, List.map_map]
  rfl
theorem join_chars {m : List Nat} (h : m.length ≤ sizeL) : m1 .join [] (.lst (m.map fun c => .str [c])) = some (.fz (.str m)) := by
  have e1 : ∀ m : List Nat, strsD (m.map fun c => D.str [c]) = some (m.map fun c => [c]) := by
    intro m
    induction m with
    | nil => rfl
    | cons c m ih => simp [strsD, ih]
  have e2 : ∀ m : List Nat, joinL [] (m.map fun c => [c]) = m := by
    intro m
    induction m with
    | nil => rfl
    | cons c m ih =>
      cases m with
      | nil => rfl
      | cons d m => simp only [List.map_cons, joinL, List.append_nil, List.cons_append, List.nil_append] at ih ⊢; rw [ih]
  have e3 : ∀ m : List Nat, ((m.map fun c => [c]).map List.length).sum = m.length := by
    intro m
    induction m with
    | nil => rfl
    | cons c m ih => simp at ih ⊢; omega
  simp only [m1, e1, e3, e2]
  rw [if_pos (by simpa using h)]
end Z

set_option Elab.async false
set_option linter.all false
set_option maxHeartbeats 1000000
set_option maxRecDepth 100000
namespace Z
open PySem L2
/-! ### the defs that the laws share, in the small syntax -/
/-- _law_flow: 0 _law_script, 1 _law_flow_here, 2 _law_cells, 3 _law_k, 4 _law_size, 5 _law_j, 6 _law_mixed -/
def T_law_flow_4_1 : Sts := .cons (.set 4 (.op2 .fdiv (.var 4) (.op2 .pow (.int 10) (.int 6)))) .nil
def T_law_flow_4_0 : Sts := .cons (.app 1 (.op2 .mod (.op1 .int (.var 4)) (.op2 .pow (.int 10) (.int 6)))) T_law_flow_4_1
def T_law_flow_3_0 : Sts := .cons (.ife (.op2 .gt (.var 4) (.int 0)) T_law_flow_4_0 .nil) .nil
def T_law_flow_2_0 : Sts := .cons (.for_ [5] (.rng1 (.int 60)) T_law_flow_3_0) .nil
def T_law_flow_6_2 : Sts := .cons (.app 1 (.op2 .mod (.op2 .mod (.op1 .int (.op2 .mul (.var 6) (.op2 .add (.var 6) (.int 40692)))) (.int 998244353)) (.op2 .pow (.int 10) (.int 6)))) .nil
def T_law_flow_6_1 : Sts := .cons (.set 6 (.op2 .mod (.op1 .int (.op2 .add (.op2 .mul (.var 6) (.var 6)) (.op2 .mul (.int 69621) (.op2 .add (.var 3) (.int 1))))) (.int 2147483629))) T_law_flow_6_2
def T_law_flow_6_0 : Sts := .cons (.set 6 (.op2 .mod (.op1 .int (.op2 .add (.op2 .add (.op2 .mul (.op2 .add (.var 4) (.int 17)) (.op2 .add (.int 48271) (.op2 .mul (.int 130) (.var 5)))) (.op2 .mul (.int 7919) (.var 3))) (.op1 .int (.op2 .lt (.op2 .idx (.var 2) (.var 3)) (.int 0))))) (.int 2147483647))) T_law_flow_6_1
def T_law_flow_5_0 : Sts := .cons (.for_ [5] (.rng1 (.op2 .add (.int 1) (.op2 .fdiv (.int 300) (.op1 .len (.var 2))))) T_law_flow_6_0) .nil
def T_law_flow_1_1 : Sts := .cons (.ife (.op2 .ge (.var 4) (.op2 .pow (.int 10) (.int 18))) T_law_flow_2_0 T_law_flow_5_0) .nil
def T_law_flow_1_0 : Sts := .cons (.set 4 (.op1 .abs (.op2 .idx (.var 2) (.var 3)))) T_law_flow_1_1
def T_law_flow_0_3 : Sts := .cons (.ret (.op1 .rev (.var 1))) .nil
def T_law_flow_0_2 : Sts := .cons (.for_ [3] (.rng1 (.op1 .len (.var 2))) T_law_flow_1_0) T_law_flow_0_3
def T_law_flow_0_1 : Sts := .cons (.set 2 (.slc (.var 0) .none (.some (.int 63)))) T_law_flow_0_2
def T_law_flow_0_0 : Sts := .cons (.set 1 (.lst .nil)) T_law_flow_0_1
def B_law_flow : Sts := T_law_flow_0_0
def F_law_flow : Fn := ⟨0, runF 1 7 B_law_flow⟩
theorem F_law_flow_sem (xs : List (Md × D)) : F_law_flow.sem xs = runF 1 7 B_law_flow xs := rfl
/-- _law_draw: 0 _law_flow_here, 1 _law_many -/
def T_law_draw_1_0 : Sts := .cons (.ret (.int 0)) .nil
def T_law_draw_0_1 : Sts := .cons (.ret (.op2 .mod (.op1 .int (.pop 0)) (.var 1))) .nil
def T_law_draw_0_0 : Sts := .cons (.ife (.op2 .eq (.op1 .len (.var 0)) (.int 0)) T_law_draw_1_0 .nil) T_law_draw_0_1
def B_law_draw : Sts := T_law_draw_0_0
def F_law_draw : Fn := ⟨1, runF 2 2 B_law_draw⟩
theorem F_law_draw_sem (xs : List (Md × D)) : F_law_draw.sem xs = runF 2 2 B_law_draw xs := rfl
/-- cut: 0 mode, 1 items, 2 letter, 3 item -/
def Tcut_0_0 : Sts := .cons (.ret (.op1 .tuple (.comp [2, 3] (.zip (.var 0) (.var 1)) (.some (.op2 .eq (.var 2) (.str [98]))) (.var 3)))) .nil
def Bcut : Sts := Tcut_0_0
def Fcut : Fn := ⟨2, runF 2 4 Bcut⟩
theorem Fcut_sem (xs : List (Md × D)) : Fcut.sem xs = runF 2 4 Bcut xs := rfl
/-- covers: 0 call, 1 name, 2 row, 3 word, 4 mode, 5 values -/
def Tcovers_0_1 : Sts := .cons (.ret (.and (.op2 .eq (.var 3) (.var 1)) (.and (.op2 .eq (.op1 .len (.var 4)) (.op1 .len (.var 2))) (.one (.op2 .eq (.call Fcut (.ev (.var 4) (.ev (.var 2) .nil))) (.var 5)))))) .nil
def Tcovers_0_0 : Sts := .cons (.unp [3, 4, 5] (.var 0)) Tcovers_0_1
def Bcovers : Sts := Tcovers_0_0
def Fcovers : Fn := ⟨3, runF 3 6 Bcovers⟩
theorem Fcovers_sem (xs : List (Md × D)) : Fcovers.sem xs = runF 3 6 Bcovers xs := rfl
/-- has_only: 0 text, 1 characters, 2 char -/
def Thas_only_0_0 : Sts := .cons (.ret (.op1 .all (.comp [2] (.seq (.var 0)) .none (.op2 .in_ (.var 2) (.var 1))))) .nil
def Bhas_only : Sts := Thas_only_0_0
def Fhas_only : Fn := ⟨4, runF 2 3 Bhas_only⟩
theorem Fhas_only_sem (xs : List (Md × D)) : Fhas_only.sem xs = runF 2 3 Bhas_only xs := rfl
/-- is_number: 0 text, 1 most_digits -/
def Tis_number_1_0 : Sts := .cons (.ret (.bl false)) .nil
def Tis_number_0_1 : Sts := .cons (.ret (.or (.op2 .eq (.var 0) (.str [48])) (.one (.op2 .ne (.op2 .idx (.var 0) (.int 0)) (.str [48]))))) .nil
def Tis_number_0_0 : Sts := .cons (.ife (.or (.not (.chn .le .le (.int 1) (.op1 .len (.var 0)) (.var 1))) (.one (.not (.call Fhas_only (.ev (.var 0) (.ev (.gl "DIGITS" (.str [48, 49, 50, 51, 52, 53, 54, 55, 56, 57])) .nil)))))) Tis_number_1_0 .nil) Tis_number_0_1
def Bis_number : Sts := Tis_number_0_0
def Fis_number : Fn := ⟨5, runF 2 2 Bis_number⟩
theorem Fis_number_sem (xs : List (Md × D)) : Fis_number.sem xs = runF 2 2 Bis_number xs := rfl
/-- is_constant: 0 value -/
def Tis_constant_1_0 : Sts := .cons (.ret (.bl false)) .nil
def Tis_constant_0_1 : Sts := .cons (.ret (.chn .le .le (.int 0) (.var 0) (.gl "MOST" (.int 999999999999)))) .nil
def Tis_constant_0_0 : Sts := .cons (.ife (.or (.not (.isi (.var 0) true [.int])) (.one (.isi (.var 0) true [.bool]))) Tis_constant_1_0 .nil) Tis_constant_0_1
def Bis_constant : Sts := Tis_constant_0_0
def Fis_constant : Fn := ⟨6, runF 1 1 Bis_constant⟩
theorem Fis_constant_sem (xs : List (Md × D)) : Fis_constant.sem xs = runF 1 1 Bis_constant xs := rfl
/-- is_variable: 0 value -/
def Tis_variable_1_0 : Sts := .cons (.ret (.bl false)) .nil
def Tis_variable_0_1 : Sts := .cons (.ret (.and (.op2 .in_ (.op2 .idx (.var 0) (.int 0)) (.gl "CAPITALS" (.str [65, 66, 67, 68, 69, 70, 71, 72, 73, 74, 75, 76, 77, 78, 79, 80, 81, 82, 83, 84, 85, 86, 87, 88, 89, 90]))) (.one (.call Fhas_only (.ev (.slc (.var 0) (.some (.int 1)) .none) (.ev (.op2 .add (.op2 .add (.gl "SMALL" (.str [97, 98, 99, 100, 101, 102, 103, 104, 105, 106, 107, 108, 109, 110, 111, 112, 113, 114, 115, 116, 117, 118, 119, 120, 121, 122])) (.gl "CAPITALS" (.str [65, 66, 67, 68, 69, 70, 71, 72, 73, 74, 75, 76, 77, 78, 79, 80, 81, 82, 83, 84, 85, 86, 87, 88, 89, 90]))) (.gl "DIGITS" (.str [48, 49, 50, 51, 52, 53, 54, 55, 56, 57]))) .nil)))))) .nil
def Tis_variable_0_0 : Sts := .cons (.ife (.or (.not (.isi (.var 0) true [.str])) (.one (.not (.chn .le .le (.int 1) (.op1 .len (.var 0)) (.int 10))))) Tis_variable_1_0 .nil) Tis_variable_0_1
def Bis_variable : Sts := Tis_variable_0_0
def Fis_variable : Fn := ⟨7, runF 1 1 Bis_variable⟩
theorem Fis_variable_sem (xs : List (Md × D)) : Fis_variable.sem xs = runF 1 1 Bis_variable xs := rfl
/-- is_word: 0 text -/
def Tis_word_1_0 : Sts := .cons (.ret (.bl false)) .nil
def Tis_word_0_1 : Sts := .cons (.ret (.and (.op2 .in_ (.op2 .idx (.var 0) (.int 0)) (.gl "SMALL" (.str [97, 98, 99, 100, 101, 102, 103, 104, 105, 106, 107, 108, 109, 110, 111, 112, 113, 114, 115, 116, 117, 118, 119, 120, 121, 122]))) (.one (.call Fhas_only (.ev (.slc (.var 0) (.some (.int 1)) .none) (.ev (.op2 .add (.gl "SMALL" (.str [97, 98, 99, 100, 101, 102, 103, 104, 105, 106, 107, 108, 109, 110, 111, 112, 113, 114, 115, 116, 117, 118, 119, 120, 121, 122])) (.gl "DIGITS" (.str [48, 49, 50, 51, 52, 53, 54, 55, 56, 57]))) .nil)))))) .nil
def Tis_word_0_0 : Sts := .cons (.ife (.or (.not (.chn .le .le (.int 1) (.op1 .len (.var 0)) (.int 12))) (.one (.op2 .eq (.var 0) (.str [110, 111, 116])))) Tis_word_1_0 .nil) Tis_word_0_1
def Bis_word : Sts := Tis_word_0_0
def Fis_word : Fn := ⟨8, runF 1 1 Bis_word⟩
theorem Fis_word_sem (xs : List (Md × D)) : Fis_word.sem xs = runF 1 1 Bis_word xs := rfl
/-- is_mark: 0 text, 1 rest, 2 parts -/
def Tis_mark_1_0 : Sts := .cons (.ret (.bl true)) .nil
def Tis_mark_0_3 : Sts := .cons (.ret (.and (.op2 .eq (.op1 .len (.var 2)) (.int 3)) (.and (.op2 .eq (.op2 .idx (.var 2) (.int 0)) (.str [])) (.and (.call Fis_number (.ev (.op2 .idx (.var 2) (.int 1)) (.ev (.int 4) .nil))) (.one (.call Fis_number (.ev (.op2 .idx (.var 2) (.int 2)) (.ev (.int 4) .nil)))))))) .nil
def Tis_mark_0_2 : Sts := .cons (.set 2 (.sm1 .split (.var 1) (.str [47]))) Tis_mark_0_3
def Tis_mark_0_1 : Sts := .cons (.ife (.or (.op2 .eq (.var 1) (.str [])) (.one (.op2 .eq (.var 1) (.str [63])))) Tis_mark_1_0 .nil) Tis_mark_0_2
def Tis_mark_0_0 : Sts := .cons (.set 1 (.sm1 .lstrip (.var 0) (.str [98, 102]))) Tis_mark_0_1
def Bis_mark : Sts := Tis_mark_0_0
def Fis_mark : Fn := ⟨9, runF 1 3 Bis_mark⟩
theorem Fis_mark_sem (xs : List (Md × D)) : Fis_mark.sem xs = runF 1 3 Bis_mark xs := rfl
/-- is_name: 0 value, 1 word, 2 marks, 3 mark -/
def Tis_name_1_0 : Sts := .cons (.ret (.bl false)) .nil
def Tis_name_0_2 : Sts := .cons (.ret (.and (.call Fis_word (.ev (.var 1) .nil)) (.one (.op1 .all (.comp [3] (.seq (.var 2)) .none (.call Fis_mark (.ev (.var 3) .nil))))))) .nil
def Tis_name_0_1 : Sts := .cons (.unps [1, 2] 1 (.sm1 .split (.var 0) (.str [64]))) Tis_name_0_2
def Tis_name_0_0 : Sts := .cons (.ife (.not (.isi (.var 0) true [.str])) Tis_name_1_0 .nil) Tis_name_0_1
def Bis_name : Sts := Tis_name_0_0
def Fis_name : Fn := ⟨10, runF 1 4 Bis_name⟩
theorem Fis_name_sem (xs : List (Md × D)) : Fis_name.sem xs = runF 1 4 Bis_name xs := rfl
/-- marked: 0 name, 1 mode, 2 level -/
def Tmarked_0_0 : Sts := .cons (.ret (.op2 .add (.op2 .add (.var 0) (.op2 .mul (.str [64]) (.var 2))) (.var 1))) .nil
def Bmarked : Sts := Tmarked_0_0
def Fmarked : Fn := ⟨11, runF 3 3 Bmarked⟩
theorem Fmarked_sem (xs : List (Md × D)) : Fmarked.sem xs = runF 3 3 Bmarked xs := rfl
/-- marked, by name: level, missing:  -/
def Fmarked_k_level : Fn := ⟨12, runF 3 3 Bmarked⟩
theorem Fmarked_k_level_sem (xs : List (Md × D)) : Fmarked_k_level.sem xs = runF 3 3 Bmarked xs := rfl
/-- marked, by name: , missing: level -/
def Fmarked_d1 : Fn := ⟨13, dfl (runF 3 3 Bmarked) [.int 1]⟩
theorem Fmarked_d1_sem (xs : List (Md × D)) : Fmarked_d1.sem xs = dfl (runF 3 3 Bmarked) [.int 1] xs := rfl
/-- asked: 0 name, 1 mode, 2 level -/
def Tasked_0_0 : Sts := .cons (.ret (.fs (.cons (.op1 .fmt (.callk Fmarked_k_level (.ev (.var 0) (.ev (.var 1) .nil)) (.ev (.var 2) .nil))) (.cons (.str [63]) .nil)))) .nil
def Basked : Sts := Tasked_0_0
def Fasked : Fn := ⟨14, runF 3 3 Basked⟩
theorem Fasked_sem (xs : List (Md × D)) : Fasked.sem xs = runF 3 3 Basked xs := rfl
/-- asked, by name: level, missing:  -/
def Fasked_k_level : Fn := ⟨15, runF 3 3 Basked⟩
theorem Fasked_k_level_sem (xs : List (Md × D)) : Fasked_k_level.sem xs = runF 3 3 Basked xs := rfl
/-- asked, by name: , missing: level -/
def Fasked_d1 : Fn := ⟨16, dfl (runF 3 3 Basked) [.int 1]⟩
theorem Fasked_d1_sem (xs : List (Md × D)) : Fasked_d1.sem xs = dfl (runF 3 3 Basked) [.int 1] xs := rfl
/-- stepped: 0 name, 1 mode, 2 rule, 3 length, 4 level -/
def Tstepped_0_0 : Sts := .cons (.ret (.fs (.cons (.op1 .fmt (.callk Fmarked_k_level (.ev (.var 0) (.ev (.var 1) .nil)) (.ev (.var 4) .nil))) (.cons (.str [47]) (.cons (.op1 .fmt (.var 2)) (.cons (.str [47]) (.cons (.op1 .fmt (.var 3)) .nil))))))) .nil
def Bstepped : Sts := Tstepped_0_0
def Fstepped : Fn := ⟨17, runF 5 5 Bstepped⟩
theorem Fstepped_sem (xs : List (Md × D)) : Fstepped.sem xs = runF 5 5 Bstepped xs := rfl
/-- stepped, by name: level, missing:  -/
def Fstepped_k_level : Fn := ⟨18, runF 5 5 Bstepped⟩
theorem Fstepped_k_level_sem (xs : List (Md × D)) : Fstepped_k_level.sem xs = runF 5 5 Bstepped xs := rfl
/-- stepped, by name: , missing: level -/
def Fstepped_d1 : Fn := ⟨19, dfl (runF 5 5 Bstepped) [.int 1]⟩
theorem Fstepped_d1_sem (xs : List (Md × D)) : Fstepped_d1.sem xs = dfl (runF 5 5 Bstepped) [.int 1] xs := rfl
/-- _law_word: 0 _law_flow_here, 1 _law_text, 2 _law_k -/
def T_law_word_1_0 : Sts := .cons (.set 1 (.op2 .add (.var 1) (.op2 .idx (.str [97, 98, 99, 100, 101, 102, 103, 104, 105, 106, 107, 108, 109, 110, 111, 112, 113, 114, 115, 116, 117, 118, 119, 120, 121, 122, 48, 49, 50, 51, 52, 53, 54, 55, 56, 57]) (.call F_law_draw (.pk 0 (.ev (.int 36) .nil)))))) .nil
def T_law_word_2_0 : Sts := .cons (.set 1 (.str [110, 111, 116, 101])) .nil
def T_law_word_3_1 : Sts := .cons (.set 1 (.op2 .add (.var 1) (.op2 .idx (.lst (.cons (.str []) (.cons (.str []) (.cons (.str [63]) (.cons (.str [47, 48, 47, 55]) (.cons (.str [47, 57, 57, 57, 57, 47, 49, 48]) (.cons (.str []) .nil))))))) (.call F_law_draw (.pk 0 (.ev (.int 6) .nil)))))) .nil
def T_law_word_3_0 : Sts := .cons (.set 1 (.op2 .add (.op2 .add (.var 1) (.str [64])) (.op2 .idx (.lst (.cons (.str []) (.cons (.str []) (.cons (.str [98]) (.cons (.str [102]) (.cons (.str [98, 102]) (.cons (.str [102, 102, 98, 98]) .nil))))))) (.call F_law_draw (.pk 0 (.ev (.int 6) .nil)))))) T_law_word_3_1
def T_law_word_0_4 : Sts := .cons (.retv 1) .nil
def T_law_word_0_3 : Sts := .cons (.for_ [2] (.rng1 (.call F_law_draw (.pk 0 (.ev (.int 5) .nil)))) T_law_word_3_0) T_law_word_0_4
def T_law_word_0_2 : Sts := .cons (.ife (.op2 .eq (.var 1) (.str [110, 111, 116])) T_law_word_2_0 .nil) T_law_word_0_3
def T_law_word_0_1 : Sts := .cons (.for_ [2] (.rng1 (.call F_law_draw (.pk 0 (.ev (.int 12) .nil)))) T_law_word_1_0) T_law_word_0_2
def T_law_word_0_0 : Sts := .cons (.set 1 (.op2 .idx (.str [97, 98, 99, 100, 101, 102, 103, 104, 105, 106, 107, 108, 109, 110, 111, 112, 113, 114, 115, 116, 117, 118, 119, 120, 121, 122]) (.call F_law_draw (.pk 0 (.ev (.int 26) .nil))))) T_law_word_0_1
def B_law_word : Sts := T_law_word_0_0
def F_law_word : Fn := ⟨20, runF 1 3 B_law_word⟩
theorem F_law_word_sem (xs : List (Md × D)) : F_law_word.sem xs = runF 1 3 B_law_word xs := rfl
abbrev gnms : List Str := ["_law_flow", "_law_draw", "cut", "covers", "has_only", "is_number", "is_constant", "is_variable", "is_word", "is_mark", "is_name", "marked", "marked", "marked", "asked", "asked", "asked", "stepped", "stepped", "stepped", "_law_word"]
abbrev gkws : List (List Str) := [[], [], [], [], [], [], [], [], [], [], [], [], ["level"], [], [], ["level"], [], [], ["level"], [], []]
end Z

set_option Elab.async false
set_option linter.all false
set_option maxHeartbeats 1000000
set_option maxRecDepth 100000
/-! ZFlow: the laws' own stream of numbers. -/
namespace Z
open PySem
/-- a stream of small numbers -/
def Small (fs : List Int) : Prop := ∀ z ∈ fs, 0 ≤ z ∧ z < 1000000
def flw (fs : List Int) : D := .lst (fs.map D.int)
/-- a draw: what it gives, what it leaves -/
theorem draw_ok {fs : List Int} {n : Int} (hf : Small fs) (hn : 0 < n) : ∃ (v : Nat) (fs' : List Int), (v : Int) < n ∧ Small fs' ∧ F_law_draw.sem [(.io, flw fs), (.fz, .int n)] = .ok (.fz (.int v)) [flw fs', .int n] := by
  rw [F_law_draw_sem]
  unfold flw
  rcases List.eq_nil_or_concat fs with rfl | ⟨r, z, rfl⟩
  · refine ⟨0, [], by omega, hf, ?_⟩
    refine runF_eq (np := 2) rfl ?_
    simp only [List.map_cons, List.map_nil, List.replicate, List.cons_append, List.nil_append, B_law_draw, T_law_draw_0_0]
    simp [↓We_var, ↓We_int, ↓We_str, ↓We_bl, ↓We_non, ↓We_gl, ↓We_dspc, ↓We_fs, ↓We_tup, ↓We_lst, ↓We_op1, ↓We_op2, ↓We_sm1, ↓We_slc, ↓We_isi, ↓We_and, ↓We_or, ↓We_one, ↓We_not, ↓We_ife, ↓We_chn, ↓We_pop, ↓We_call, ↓We_callk, ↓We_comp, ↓Wr_var, ↓Wr_int, ↓Wr_str, ↓Wr_bl, ↓Wr_non, ↓Wr_gl, ↓Wr_dspc, ↓Wr_fs, ↓Wr_tup, ↓Wr_lst, ↓Wr_op1, ↓Wr_op2, ↓Wr_sm1, ↓Wr_slc, ↓Wr_isi, ↓Wr_and, ↓Wr_or, ↓Wr_not, ↓Wr_ife, ↓Wr_chn, ↓Wr_pop, ↓Wr_call, ↓Wr_callk, ↓Wr_comp, ↓Ws_set, ↓Ws_unp, ↓Ws_unps, ↓Ws_app, ↓Ws_seti, ↓Ws_setf, ↓Ws_expr, ↓Ws_ife, ↓Ws_for, ↓Ws_while, ↓Ws_ret, ↓Ws_retv, ↓Ws_retn, ↓Ws_brk, ↓Ws_cont, ↓Ws_pass, ↓Wss_cons, ↓Wss_nil, ↓Wes_nil, ↓Wes_cons, ↓Wo_none, ↓Wo_some, ↓Was_nil, ↓Was_ev, ↓Was_pk, ↓Wcall_def, catA_nil, catA_cons, ↓Wsrc_seq, ↓Wsrc_rng1, ↓Wsrc_rng2, ↓Wsrc_zip, ↓seq_nx, ↓seq_rt, ↓seq_bk, ↓seq_ct, ↓seq_ex, ↓W1_some, ↓WJ_some, ↓W1_none, ↓WJ_none, ↓Wf_fz, ↓Wf_lst, ↓Wf_dct, ↓Wf_obj, ↓Wb_bl, ↓Wi_int, ↓Wif_true, ↓Wif_false, ↓Wv_fz, ↓Wv_ow, ↓Wv_owd, ↓Wv_owo, ↓Wsem_ok, ↓setR_fz, ↓setR_fr, ↓Wrv_some, ↓Wpk_some, ↓Wunp_fz, ↓Wunps_lst, ↓WisL_lst, ↓Wapp_ow, ↓Wapp_io, ↓Wseti_ow, ↓Wseti_io, ↓Wretv_fz, ↓Wretv_ow, ↓Wpop_io, ↓Wpop_ow, ↓Wturn_none, ↓Wturn_some, ↓accO_some, ↓accO_none, ↓res_val, ↓res_pk, ↓slotD_0, ↓slotD_s, W1_some, WJ_some, W1_none, WJ_none, Wf_fz, Wf_lst, Wf_dct, Wf_obj, Wb_bl, Wi_int, Wif_true, Wif_false, Wv_fz, Wv_ow, Wv_owd, Wv_owo, Wsem_ok, setR_fz, setR_fr, Wrv_some, Wpk_some, Wunp_fz, Wunps_lst, WisL_lst, Wapp_ow, Wapp_io, Wseti_ow, Wseti_io, Wretv_fz, Wretv_ow, Wpop_io, Wpop_ow, accO_some, accO_none, Int.reduceLT, Int.reduceLE, Nat.reduceLT, Nat.reduceLeDiff, Int.reduceToNat, Int.reduceAdd, Int.reduceSub, Int.reduceMul, Int.reduceNeg, decide_true, decide_false, Bool.or_true, Bool.true_or, Bool.or_false, Bool.false_or, Bool.and_true, Bool.true_and, Bool.and_false, Bool.false_and, Bool.not_true, Bool.not_false, and_true, true_and, Option.map_some, Option.map_none, Option.bind_some, Option.bind_none, List.set_cons_zero, List.set_cons_succ, k1_len_str, k1_len_tup, k1_len_lst, k1_len_frl, k1_abs, k1_neg, k1_int, k1_intb, k1_tuple_lst, k1_tuple_tup, k1_list_lst, k1_list_tup, k1_rev, k1_isN, k1_notN, k2_add, k2_add_str, k2_add_lst, k2_sub, k1_isT, k1_notT, k2_mul, k2_muls, k2_fdiv, k2_mod, k2_pow6, k2_pow18, k2_pow12, k2_lt, k2_le, k2_gt, k2_ge, k2_eq, k2_ne, k2_in, k2_notin, k2_idx, idx_0, idx_1, idx_2, idx_3, idt_0, idt_1, idt_2, idt_3, k2_max, slc_str, slc_lst, slc_frl, seq_lst, seq_tup, seq_str, turnE_nx, turnE_ct, turnE_rt, turnE_bk, wipeD, backW, freeT_nil, freeT_cons, freeT1_none, freeT1_fz, freeT1_fzs, lockI, lockD_n, lockD_s, openD_n, openD_s, bindT_1, bindT_2, bindM, size_le, List.foldl_cons, List.foldl_nil, List.all_cons, List.all_nil, List.getElem?_cons_zero, List.getElem?_cons_succ, Option.join_some, Option.join_none, List.zip_cons_cons, List.zip_nil_left, List.length_cons, List.length_nil, List.length_append, Nat.reduceAdd, Nat.reduceEqDiff, Bool.false_eq_true, if_true, if_false, ↓reduceIte, ite_true, ite_false, ki_int_int, ki_int_str, ki_int_bool, ki_int_list, ki_int_tuple, ki_int_dict, ki_bl_int, ki_bl_str, ki_bl_bool, ki_bl_list, ki_bl_tuple, ki_bl_dict, ki_str_int, ki_str_str, ki_str_bool, ki_str_list, ki_str_tuple, ki_str_dict, ki_lst_int, ki_lst_str, ki_lst_bool, ki_lst_list, ki_lst_tuple, ki_lst_dict, ki_frl_int, ki_frl_str, ki_frl_bool, ki_frl_list, ki_frl_tuple, ki_frl_dict, ki_tup_int, ki_tup_str, ki_tup_bool, ki_tup_list, ki_tup_tuple, ki_tup_dict, ki_dct_int, ki_dct_str, ki_dct_bool, ki_dct_list, ki_dct_tuple, ki_dct_dict, ki_non_int, ki_non_str, ki_non_bool, ki_non_list, ki_non_tuple, ki_non_dict, kis_nil, kis_t, kis_f, Z.argsOf, Z.argOf, Z.backTo, Z.outsOf, List.any_nil, List.any_cons, eqD_int, T_law_draw_1_0]
  · have hz := hf z (by simp)
    have h0 : 0 ≤ z % n := Int.emod_nonneg _ (by omega)
    have h1 := Int.emod_lt_of_pos z hn
    refine ⟨(z % n).toNat, r, by omega, fun y hy => hf y (by simp [hy]), ?_⟩
    refine runF_eq (np := 2) rfl ?_
    have hl : ¬ ((r.length : Int) + 1 = 0) := by omega
    simp only [List.map_cons, List.map_nil, List.replicate, List.cons_append, List.nil_append, B_law_draw, T_law_draw_0_0]
    simp [↓We_var, ↓We_int, ↓We_str, ↓We_bl, ↓We_non, ↓We_gl, ↓We_dspc, ↓We_fs, ↓We_tup, ↓We_lst, ↓We_op1, ↓We_op2, ↓We_sm1, ↓We_slc, ↓We_isi, ↓We_and, ↓We_or, ↓We_one, ↓We_not, ↓We_ife, ↓We_chn, ↓We_pop, ↓We_call, ↓We_callk, ↓We_comp, ↓Wr_var, ↓Wr_int, ↓Wr_str, ↓Wr_bl, ↓Wr_non, ↓Wr_gl, ↓Wr_dspc, ↓Wr_fs, ↓Wr_tup, ↓Wr_lst, ↓Wr_op1, ↓Wr_op2, ↓Wr_sm1, ↓Wr_slc, ↓Wr_isi, ↓Wr_and, ↓Wr_or, ↓Wr_not, ↓Wr_ife, ↓Wr_chn, ↓Wr_pop, ↓Wr_call, ↓Wr_callk, ↓Wr_comp, ↓Ws_set, ↓Ws_unp, ↓Ws_unps, ↓Ws_app, ↓Ws_seti, ↓Ws_setf, ↓Ws_expr, ↓Ws_ife, ↓Ws_for, ↓Ws_while, ↓Ws_ret, ↓Ws_retv, ↓Ws_retn, ↓Ws_brk, ↓Ws_cont, ↓Ws_pass, ↓Wss_cons, ↓Wss_nil, ↓Wes_nil, ↓Wes_cons, ↓Wo_none, ↓Wo_some, ↓Was_nil, ↓Was_ev, ↓Was_pk, ↓Wcall_def, catA_nil, catA_cons, ↓Wsrc_seq, ↓Wsrc_rng1, ↓Wsrc_rng2, ↓Wsrc_zip, ↓seq_nx, ↓seq_rt, ↓seq_bk, ↓seq_ct, ↓seq_ex, ↓W1_some, ↓WJ_some, ↓W1_none, ↓WJ_none, ↓Wf_fz, ↓Wf_lst, ↓Wf_dct, ↓Wf_obj, ↓Wb_bl, ↓Wi_int, ↓Wif_true, ↓Wif_false, ↓Wv_fz, ↓Wv_ow, ↓Wv_owd, ↓Wv_owo, ↓Wsem_ok, ↓setR_fz, ↓setR_fr, ↓Wrv_some, ↓Wpk_some, ↓Wunp_fz, ↓Wunps_lst, ↓WisL_lst, ↓Wapp_ow, ↓Wapp_io, ↓Wseti_ow, ↓Wseti_io, ↓Wretv_fz, ↓Wretv_ow, ↓Wpop_io, ↓Wpop_ow, ↓Wturn_none, ↓Wturn_some, ↓accO_some, ↓accO_none, ↓res_val, ↓res_pk, ↓slotD_0, ↓slotD_s, W1_some, WJ_some, W1_none, WJ_none, Wf_fz, Wf_lst, Wf_dct, Wf_obj, Wb_bl, Wi_int, Wif_true, Wif_false, Wv_fz, Wv_ow, Wv_owd, Wv_owo, Wsem_ok, setR_fz, setR_fr, Wrv_some, Wpk_some, Wunp_fz, Wunps_lst, WisL_lst, Wapp_ow, Wapp_io, Wseti_ow, Wseti_io, Wretv_fz, Wretv_ow, Wpop_io, Wpop_ow, accO_some, accO_none, Int.reduceLT, Int.reduceLE, Nat.reduceLT, Nat.reduceLeDiff, Int.reduceToNat, Int.reduceAdd, Int.reduceSub, Int.reduceMul, Int.reduceNeg, decide_true, decide_false, Bool.or_true, Bool.true_or, Bool.or_false, Bool.false_or, Bool.and_true, Bool.true_and, Bool.and_false, Bool.false_and, Bool.not_true, Bool.not_false, and_true, true_and, Option.map_some, Option.map_none, Option.bind_some, Option.bind_none, List.set_cons_zero, List.set_cons_succ, k1_len_str, k1_len_tup, k1_len_lst, k1_len_frl, k1_abs, k1_neg, k1_int, k1_intb, k1_tuple_lst, k1_tuple_tup, k1_list_lst, k1_list_tup, k1_rev, k1_isN, k1_notN, k2_add, k2_add_str, k2_add_lst, k2_sub, k1_isT, k1_notT, k2_mul, k2_muls, k2_fdiv, k2_mod, k2_pow6, k2_pow18, k2_pow12, k2_lt, k2_le, k2_gt, k2_ge, k2_eq, k2_ne, k2_in, k2_notin, k2_idx, idx_0, idx_1, idx_2, idx_3, idt_0, idt_1, idt_2, idt_3, k2_max, slc_str, slc_lst, slc_frl, seq_lst, seq_tup, seq_str, turnE_nx, turnE_ct, turnE_rt, turnE_bk, wipeD, backW, freeT_nil, freeT_cons, freeT1_none, freeT1_fz, freeT1_fzs, lockI, lockD_n, lockD_s, openD_n, openD_s, bindT_1, bindT_2, bindM, size_le, List.foldl_cons, List.foldl_nil, List.all_cons, List.all_nil, List.getElem?_cons_zero, List.getElem?_cons_succ, Option.join_some, Option.join_none, List.zip_cons_cons, List.zip_nil_left, List.length_cons, List.length_nil, List.length_append, Nat.reduceAdd, Nat.reduceEqDiff, Bool.false_eq_true, if_true, if_false, ↓reduceIte, ite_true, ite_false, ki_int_int, ki_int_str, ki_int_bool, ki_int_list, ki_int_tuple, ki_int_dict, ki_bl_int, ki_bl_str, ki_bl_bool, ki_bl_list, ki_bl_tuple, ki_bl_dict, ki_str_int, ki_str_str, ki_str_bool, ki_str_list, ki_str_tuple, ki_str_dict, ki_lst_int, ki_lst_str, ki_lst_bool, ki_lst_list, ki_lst_tuple, ki_lst_dict, ki_frl_int, ki_frl_str, ki_frl_bool, ki_frl_list, ki_frl_tuple, ki_frl_dict, ki_tup_int, ki_tup_str, ki_tup_bool, ki_tup_list, ki_tup_tuple, ki_tup_dict, ki_dct_int, ki_dct_str, ki_dct_bool, ki_dct_list, ki_dct_tuple, ki_dct_dict, ki_non_int, ki_non_str, ki_non_bool, ki_non_list, ki_non_tuple, ki_non_dict, kis_nil, kis_t, kis_f, Z.argsOf, Z.argOf, Z.backTo, Z.outsOf, List.any_nil, List.any_cons, eqD_int, hl, T_law_draw_0_1, hn]
    omega
theorem cut_map {α β : Type} (f : α → β) (xs : List α) (lo hi : Option Int) : cutD (xs.map f) lo hi = (cutD xs lo hi).map f := by
  unfold cutD
  rw [List.length_map, List.map_take, List.map_drop]
theorem small_mod {z : Int} : 0 ≤ z % 1000000 ∧ z % 1000000 < 1000000 := ⟨Int.emod_nonneg _ (by decide), Int.emod_lt_of_pos _ (by decide)⟩
theorem small_snoc {acc : List Int} {z : Int} (h : Small acc) : Small (acc ++ [z % 1000000]) := fun y hy => by
  rcases List.mem_append.mp hy with h' | h'
  · exact h y h'
  · rw [List.mem_singleton.mp h']; exact small_mod
/-- the state within -/
def fst (sc : D) (acc : List Int) (cs : List Int) (a b c d : Sl) : DSt := [some (.fz, sc), some (.ow, .lst (acc.map D.int)), some (.ow, .lst (cs.map D.int)), a, b, c, d]
theorem flow_ok (ns : List Int) : ∃ fs, Small fs ∧ F_law_flow.sem [(.fz, .frl (ns.map D.int))] = .ok (.fr (flw fs)) [.frl (ns.map D.int)] := by
  rw [F_law_flow_sem]
  obtain ⟨sc, hsc⟩ : ∃ sc, sc = D.frl (ns.map D.int) := ⟨_, rfl⟩
  rw [← hsc]
  obtain ⟨cs, hc, ec⟩ : ∃ cs : List Int, cs.length ≤ 63 ∧ slcD sc none (some 63) = some (.fr (.lst (cs.map D.int))) := by
    refine ⟨cutD ns none (some 63), ?_, by rw [hsc, slcD, cut_map]⟩
    unfold cutD clipD
    simp
    omega
  suffices ∃ r outs, runF 1 7 B_law_flow [(.fz, sc)] = .ok r outs ∧ ∃ fs, Small fs ∧ r = .fr (flw fs) ∧ outs = [sc] by
    obtain ⟨r, outs, e, fs, h, rfl, rfl⟩ := this
    exact ⟨fs, h, e⟩
  refine runF_by (np := 1) rfl ?_
  simp only [List.map_cons, List.map_nil, List.replicate, List.cons_append, List.nil_append, B_law_flow]
  simp only [↓We_var, ↓We_int, ↓We_str, ↓We_bl, ↓We_non, ↓We_gl, ↓We_dspc, ↓We_fs, ↓We_tup, ↓We_lst, ↓We_op1, ↓We_op2, ↓We_sm1, ↓We_slc, ↓We_isi, ↓We_and, ↓We_or, ↓We_one, ↓We_not, ↓We_ife, ↓We_chn, ↓We_pop, ↓We_call, ↓We_callk, ↓We_comp, ↓Wr_var, ↓Wr_int, ↓Wr_str, ↓Wr_bl, ↓Wr_non, ↓Wr_gl, ↓Wr_dspc, ↓Wr_fs, ↓Wr_tup, ↓Wr_lst, ↓Wr_op1, ↓Wr_op2, ↓Wr_sm1, ↓Wr_slc, ↓Wr_isi, ↓Wr_and, ↓Wr_or, ↓Wr_not, ↓Wr_ife, ↓Wr_chn, ↓Wr_pop, ↓Wr_call, ↓Wr_callk, ↓Wr_comp, ↓Ws_set, ↓Ws_unp, ↓Ws_unps, ↓Ws_app, ↓Ws_seti, ↓Ws_setf, ↓Ws_expr, ↓Ws_ife, ↓Ws_for, ↓Ws_while, ↓Ws_ret, ↓Ws_retv, ↓Ws_retn, ↓Ws_brk, ↓Ws_cont, ↓Ws_pass, ↓Wss_cons, ↓Wss_nil, ↓Wes_nil, ↓Wes_cons, ↓Wo_none, ↓Wo_some, ↓Was_nil, ↓Was_ev, ↓Was_pk, ↓Wcall_def, catA_nil, catA_cons, ↓Wsrc_seq, ↓Wsrc_rng1, ↓Wsrc_rng2, ↓Wsrc_zip, ↓seq_nx, ↓seq_rt, ↓seq_bk, ↓seq_ct, ↓seq_ex, ↓W1_some, ↓WJ_some, ↓W1_none, ↓WJ_none, ↓Wf_fz, ↓Wf_lst, ↓Wf_dct, ↓Wf_obj, ↓Wb_bl, ↓Wi_int, ↓Wif_true, ↓Wif_false, ↓Wv_fz, ↓Wv_ow, ↓Wv_owd, ↓Wv_owo, ↓Wsem_ok, ↓setR_fz, ↓setR_fr, ↓Wrv_some, ↓Wpk_some, ↓Wunp_fz, ↓Wunps_lst, ↓WisL_lst, ↓Wapp_ow, ↓Wapp_io, ↓Wseti_ow, ↓Wseti_io, ↓Wretv_fz, ↓Wretv_ow, ↓Wpop_io, ↓Wpop_ow, ↓Wturn_none, ↓Wturn_some, ↓accO_some, ↓accO_none, ↓res_val, ↓res_pk, ↓slotD_0, ↓slotD_s, W1_some, WJ_some, W1_none, WJ_none, Wf_fz, Wf_lst, Wf_dct, Wf_obj, Wb_bl, Wi_int, Wif_true, Wif_false, Wv_fz, Wv_ow, Wv_owd, Wv_owo, Wsem_ok, setR_fz, setR_fr, Wrv_some, Wpk_some, Wunp_fz, Wunps_lst, WisL_lst, Wapp_ow, Wapp_io, Wseti_ow, Wseti_io, Wretv_fz, Wretv_ow, Wpop_io, Wpop_ow, accO_some, accO_none, Int.reduceLT, Int.reduceLE, Nat.reduceLT, Nat.reduceLeDiff, Int.reduceToNat, Int.reduceAdd, Int.reduceSub, Int.reduceMul, Int.reduceNeg, decide_true, decide_false, Bool.or_true, Bool.true_or, Bool.or_false, Bool.false_or, Bool.and_true, Bool.true_and, Bool.and_false, Bool.false_and, Bool.not_true, Bool.not_false, and_true, true_and, Option.map_some, Option.map_none, Option.bind_some, Option.bind_none, List.set_cons_zero, List.set_cons_succ, k1_len_str, k1_len_tup, k1_len_lst, k1_len_frl, k1_abs, k1_neg, k1_int, k1_intb, k1_tuple_lst, k1_tuple_tup, k1_list_lst, k1_list_tup, k1_rev, k1_isN, k1_notN, k2_add, k2_add_str, k2_add_lst, k2_sub, k1_isT, k1_notT, k2_mul, k2_muls, k2_fdiv, k2_mod, k2_pow6, k2_pow18, k2_pow12, k2_lt, k2_le, k2_gt, k2_ge, k2_eq, k2_ne, k2_in, k2_notin, k2_idx, idx_0, idx_1, idx_2, idx_3, idt_0, idt_1, idt_2, idt_3, k2_max, slc_str, slc_lst, slc_frl, seq_lst, seq_tup, seq_str, turnE_nx, turnE_ct, turnE_rt, turnE_bk, wipeD, backW, freeT_nil, freeT_cons, freeT1_none, freeT1_fz, freeT1_fzs, lockI, lockD_n, lockD_s, openD_n, openD_s, bindT_1, bindT_2, bindM, size_le, List.foldl_cons, List.foldl_nil, List.all_cons, List.all_nil, List.getElem?_cons_zero, List.getElem?_cons_succ, Option.join_some, Option.join_none, List.zip_cons_cons, List.zip_nil_left, List.length_cons, List.length_nil, List.length_append, Nat.reduceAdd, Nat.reduceEqDiff, Bool.false_eq_true, if_true, if_false, ↓reduceIte, ite_true, ite_false, ki_int_int, ki_int_str, ki_int_bool, ki_int_list, ki_int_tuple, ki_int_dict, ki_bl_int, ki_bl_str, ki_bl_bool, ki_bl_list, ki_bl_tuple, ki_bl_dict, ki_str_int, ki_str_str, ki_str_bool, ki_str_list, ki_str_tuple, ki_str_dict, ki_lst_int, ki_lst_str, ki_lst_bool, ki_lst_list, ki_lst_tuple, ki_lst_dict, ki_frl_int, ki_frl_str, ki_frl_bool, ki_frl_list, ki_frl_tuple, ki_frl_dict, ki_tup_int, ki_tup_str, ki_tup_bool, ki_tup_list, ki_tup_tuple, ki_tup_dict, ki_dct_int, ki_dct_str, ki_dct_bool, ki_dct_list, ki_dct_tuple, ki_dct_dict, ki_non_int, ki_non_str, ki_non_bool, ki_non_list, ki_non_tuple, ki_non_dict, kis_nil, kis_t, kis_f, Z.argsOf, Z.argOf, Z.backTo, Z.outsOf, List.any_nil, List.any_cons, T_law_flow_0_0, T_law_flow_0_1, T_law_flow_0_2, ec]
  have e62 : range62 ((cs.map D.int).length : Int) = true := range62_lit (by rw [List.length_map]; omega)
  refine ⟨e62, ?_⟩
  refine Wfor.rng (fun i δ => ∃ acc a b c d, δ = fst sc acc cs a b c d ∧ acc.length ≤ i * 400 ∧ Small acc) ⟨[], none, none, none, none, rfl, Nat.zero_le _, by intro z hz; cases hz⟩ ?_ ?_
  · rintro i δ hi ⟨acc, a, b, c, d, rfl, hl, hs⟩
    have hi : i < cs.length := by simpa using hi
    have hx : idxD (.lst (cs.map D.int)) (.int (0 + (i : Int))) = some (.int cs[i]) := by
      rw [Int.zero_add, idx_lst, ixD_nat (by simpa using hi)]
      simp [hi]
    obtain ⟨I, hI⟩ : ∃ I : Int, I = 0 + (i : Int) := ⟨_, rfl⟩
    rw [← hI] at hx ⊢
    have hI0 : 0 ≤ I := by omega
    generalize cs[i] = z at hx
    obtain ⟨v, hv⟩ : ∃ v : Int, v = if z < 0 then -z else z := ⟨_, rfl⟩
    have hv0 : 0 ≤ v := by rw [hv]; split <;> omega
    simp only [fst, T_law_flow_1_0, ↓We_var, ↓We_int, ↓We_str, ↓We_bl, ↓We_non, ↓We_gl, ↓We_dspc, ↓We_fs, ↓We_tup, ↓We_lst, ↓We_op1, ↓We_op2, ↓We_sm1, ↓We_slc, ↓We_isi, ↓We_and, ↓We_or, ↓We_one, ↓We_not, ↓We_ife, ↓We_chn, ↓We_pop, ↓We_call, ↓We_callk, ↓We_comp, ↓Wr_var, ↓Wr_int, ↓Wr_str, ↓Wr_bl, ↓Wr_non, ↓Wr_gl, ↓Wr_dspc, ↓Wr_fs, ↓Wr_tup, ↓Wr_lst, ↓Wr_op1, ↓Wr_op2, ↓Wr_sm1, ↓Wr_slc, ↓Wr_isi, ↓Wr_and, ↓Wr_or, ↓Wr_not, ↓Wr_ife, ↓Wr_chn, ↓Wr_pop, ↓Wr_call, ↓Wr_callk, ↓Wr_comp, ↓Ws_set, ↓Ws_unp, ↓Ws_unps, ↓Ws_app, ↓Ws_seti, ↓Ws_setf, ↓Ws_expr, ↓Ws_ife, ↓Ws_for, ↓Ws_while, ↓Ws_ret, ↓Ws_retv, ↓Ws_retn, ↓Ws_brk, ↓Ws_cont, ↓Ws_pass, ↓Wss_cons, ↓Wss_nil, ↓Wes_nil, ↓Wes_cons, ↓Wo_none, ↓Wo_some, ↓Was_nil, ↓Was_ev, ↓Was_pk, ↓Wcall_def, catA_nil, catA_cons, ↓Wsrc_seq, ↓Wsrc_rng1, ↓Wsrc_rng2, ↓Wsrc_zip, ↓seq_nx, ↓seq_rt, ↓seq_bk, ↓seq_ct, ↓seq_ex, ↓W1_some, ↓WJ_some, ↓W1_none, ↓WJ_none, ↓Wf_fz, ↓Wf_lst, ↓Wf_dct, ↓Wf_obj, ↓Wb_bl, ↓Wi_int, ↓Wif_true, ↓Wif_false, ↓Wv_fz, ↓Wv_ow, ↓Wv_owd, ↓Wv_owo, ↓Wsem_ok, ↓setR_fz, ↓setR_fr, ↓Wrv_some, ↓Wpk_some, ↓Wunp_fz, ↓Wunps_lst, ↓WisL_lst, ↓Wapp_ow, ↓Wapp_io, ↓Wseti_ow, ↓Wseti_io, ↓Wretv_fz, ↓Wretv_ow, ↓Wpop_io, ↓Wpop_ow, ↓Wturn_none, ↓Wturn_some, ↓accO_some, ↓accO_none, ↓res_val, ↓res_pk, ↓slotD_0, ↓slotD_s, W1_some, WJ_some, W1_none, WJ_none, Wf_fz, Wf_lst, Wf_dct, Wf_obj, Wb_bl, Wi_int, Wif_true, Wif_false, Wv_fz, Wv_ow, Wv_owd, Wv_owo, Wsem_ok, setR_fz, setR_fr, Wrv_some, Wpk_some, Wunp_fz, Wunps_lst, WisL_lst, Wapp_ow, Wapp_io, Wseti_ow, Wseti_io, Wretv_fz, Wretv_ow, Wpop_io, Wpop_ow, accO_some, accO_none, Int.reduceLT, Int.reduceLE, Nat.reduceLT, Nat.reduceLeDiff, Int.reduceToNat, Int.reduceAdd, Int.reduceSub, Int.reduceMul, Int.reduceNeg, decide_true, decide_false, Bool.or_true, Bool.true_or, Bool.or_false, Bool.false_or, Bool.and_true, Bool.true_and, Bool.and_false, Bool.false_and, Bool.not_true, Bool.not_false, and_true, true_and, Option.map_some, Option.map_none, Option.bind_some, Option.bind_none, List.set_cons_zero, List.set_cons_succ, k1_len_str, k1_len_tup, k1_len_lst, k1_len_frl, k1_abs, k1_neg, k1_int, k1_intb, k1_tuple_lst, k1_tuple_tup, k1_list_lst, k1_list_tup, k1_rev, k1_isN, k1_notN, k2_add, k2_add_str, k2_add_lst, k2_sub, k1_isT, k1_notT, k2_mul, k2_muls, k2_fdiv, k2_mod, k2_pow6, k2_pow18, k2_pow12, k2_lt, k2_le, k2_gt, k2_ge, k2_eq, k2_ne, k2_in, k2_notin, k2_idx, idx_0, idx_1, idx_2, idx_3, idt_0, idt_1, idt_2, idt_3, k2_max, slc_str, slc_lst, slc_frl, seq_lst, seq_tup, seq_str, turnE_nx, turnE_ct, turnE_rt, turnE_bk, wipeD, backW, freeT_nil, freeT_cons, freeT1_none, freeT1_fz, freeT1_fzs, lockI, lockD_n, lockD_s, openD_n, openD_s, bindT_1, bindT_2, bindM, size_le, List.foldl_cons, List.foldl_nil, List.all_cons, List.all_nil, List.getElem?_cons_zero, List.getElem?_cons_succ, Option.join_some, Option.join_none, List.zip_cons_cons, List.zip_nil_left, List.length_cons, List.length_nil, List.length_append, Nat.reduceAdd, Nat.reduceEqDiff, Bool.false_eq_true, if_true, if_false, ↓reduceIte, ite_true, ite_false, ki_int_int, ki_int_str, ki_int_bool, ki_int_list, ki_int_tuple, ki_int_dict, ki_bl_int, ki_bl_str, ki_bl_bool, ki_bl_list, ki_bl_tuple, ki_bl_dict, ki_str_int, ki_str_str, ki_str_bool, ki_str_list, ki_str_tuple, ki_str_dict, ki_lst_int, ki_lst_str, ki_lst_bool, ki_lst_list, ki_lst_tuple, ki_lst_dict, ki_frl_int, ki_frl_str, ki_frl_bool, ki_frl_list, ki_frl_tuple, ki_frl_dict, ki_tup_int, ki_tup_str, ki_tup_bool, ki_tup_list, ki_tup_tuple, ki_tup_dict, ki_dct_int, ki_dct_str, ki_dct_bool, ki_dct_list, ki_dct_tuple, ki_dct_dict, ki_non_int, ki_non_str, ki_non_bool, ki_non_list, ki_non_tuple, ki_non_dict, kis_nil, kis_t, kis_f, Z.argsOf, Z.argOf, Z.backTo, Z.outsOf, List.any_nil, List.any_cons, hx, ← hv]
    simp only [T_law_flow_1_1, ↓We_var, ↓We_int, ↓We_str, ↓We_bl, ↓We_non, ↓We_gl, ↓We_dspc, ↓We_fs, ↓We_tup, ↓We_lst, ↓We_op1, ↓We_op2, ↓We_sm1, ↓We_slc, ↓We_isi, ↓We_and, ↓We_or, ↓We_one, ↓We_not, ↓We_ife, ↓We_chn, ↓We_pop, ↓We_call, ↓We_callk, ↓We_comp, ↓Wr_var, ↓Wr_int, ↓Wr_str, ↓Wr_bl, ↓Wr_non, ↓Wr_gl, ↓Wr_dspc, ↓Wr_fs, ↓Wr_tup, ↓Wr_lst, ↓Wr_op1, ↓Wr_op2, ↓Wr_sm1, ↓Wr_slc, ↓Wr_isi, ↓Wr_and, ↓Wr_or, ↓Wr_not, ↓Wr_ife, ↓Wr_chn, ↓Wr_pop, ↓Wr_call, ↓Wr_callk, ↓Wr_comp, ↓Ws_set, ↓Ws_unp, ↓Ws_unps, ↓Ws_app, ↓Ws_seti, ↓Ws_setf, ↓Ws_expr, ↓Ws_ife, ↓Ws_for, ↓Ws_while, ↓Ws_ret, ↓Ws_retv, ↓Ws_retn, ↓Ws_brk, ↓Ws_cont, ↓Ws_pass, ↓Wss_cons, ↓Wss_nil, ↓Wes_nil, ↓Wes_cons, ↓Wo_none, ↓Wo_some, ↓Was_nil, ↓Was_ev, ↓Was_pk, ↓Wcall_def, catA_nil, catA_cons, ↓Wsrc_seq, ↓Wsrc_rng1, ↓Wsrc_rng2, ↓Wsrc_zip, ↓seq_nx, ↓seq_rt, ↓seq_bk, ↓seq_ct, ↓seq_ex, ↓W1_some, ↓WJ_some, ↓W1_none, ↓WJ_none, ↓Wf_fz, ↓Wf_lst, ↓Wf_dct, ↓Wf_obj, ↓Wb_bl, ↓Wi_int, ↓Wif_true, ↓Wif_false, ↓Wv_fz, ↓Wv_ow, ↓Wv_owd, ↓Wv_owo, ↓Wsem_ok, ↓setR_fz, ↓setR_fr, ↓Wrv_some, ↓Wpk_some, ↓Wunp_fz, ↓Wunps_lst, ↓WisL_lst, ↓Wapp_ow, ↓Wapp_io, ↓Wseti_ow, ↓Wseti_io, ↓Wretv_fz, ↓Wretv_ow, ↓Wpop_io, ↓Wpop_ow, ↓Wturn_none, ↓Wturn_some, ↓accO_some, ↓accO_none, ↓res_val, ↓res_pk, ↓slotD_0, ↓slotD_s, W1_some, WJ_some, W1_none, WJ_none, Wf_fz, Wf_lst, Wf_dct, Wf_obj, Wb_bl, Wi_int, Wif_true, Wif_false, Wv_fz, Wv_ow, Wv_owd, Wv_owo, Wsem_ok, setR_fz, setR_fr, Wrv_some, Wpk_some, Wunp_fz, Wunps_lst, WisL_lst, Wapp_ow, Wapp_io, Wseti_ow, Wseti_io, Wretv_fz, Wretv_ow, Wpop_io, Wpop_ow, accO_some, accO_none, Int.reduceLT, Int.reduceLE, Nat.reduceLT, Nat.reduceLeDiff, Int.reduceToNat, Int.reduceAdd, Int.reduceSub, Int.reduceMul, Int.reduceNeg, decide_true, decide_false, Bool.or_true, Bool.true_or, Bool.or_false, Bool.false_or, Bool.and_true, Bool.true_and, Bool.and_false, Bool.false_and, Bool.not_true, Bool.not_false, and_true, true_and, Option.map_some, Option.map_none, Option.bind_some, Option.bind_none, List.set_cons_zero, List.set_cons_succ, k1_len_str, k1_len_tup, k1_len_lst, k1_len_frl, k1_abs, k1_neg, k1_int, k1_intb, k1_tuple_lst, k1_tuple_tup, k1_list_lst, k1_list_tup, k1_rev, k1_isN, k1_notN, k2_add, k2_add_str, k2_add_lst, k2_sub, k1_isT, k1_notT, k2_mul, k2_muls, k2_fdiv, k2_mod, k2_pow6, k2_pow18, k2_pow12, k2_lt, k2_le, k2_gt, k2_ge, k2_eq, k2_ne, k2_in, k2_notin, k2_idx, idx_0, idx_1, idx_2, idx_3, idt_0, idt_1, idt_2, idt_3, k2_max, slc_str, slc_lst, slc_frl, seq_lst, seq_tup, seq_str, turnE_nx, turnE_ct, turnE_rt, turnE_bk, wipeD, backW, freeT_nil, freeT_cons, freeT1_none, freeT1_fz, freeT1_fzs, lockI, lockD_n, lockD_s, openD_n, openD_s, bindT_1, bindT_2, bindM, size_le, List.foldl_cons, List.foldl_nil, List.all_cons, List.all_nil, List.getElem?_cons_zero, List.getElem?_cons_succ, Option.join_some, Option.join_none, List.zip_cons_cons, List.zip_nil_left, List.length_cons, List.length_nil, List.length_append, Nat.reduceAdd, Nat.reduceEqDiff, Bool.false_eq_true, if_true, if_false, ↓reduceIte, ite_true, ite_false, ki_int_int, ki_int_str, ki_int_bool, ki_int_list, ki_int_tuple, ki_int_dict, ki_bl_int, ki_bl_str, ki_bl_bool, ki_bl_list, ki_bl_tuple, ki_bl_dict, ki_str_int, ki_str_str, ki_str_bool, ki_str_list, ki_str_tuple, ki_str_dict, ki_lst_int, ki_lst_str, ki_lst_bool, ki_lst_list, ki_lst_tuple, ki_lst_dict, ki_frl_int, ki_frl_str, ki_frl_bool, ki_frl_list, ki_frl_tuple, ki_frl_dict, ki_tup_int, ki_tup_str, ki_tup_bool, ki_tup_list, ki_tup_tuple, ki_tup_dict, ki_dct_int, ki_dct_str, ki_dct_bool, ki_dct_list, ki_dct_tuple, ki_dct_dict, ki_non_int, ki_non_str, ki_non_bool, ki_non_list, ki_non_tuple, ki_non_dict, kis_nil, kis_t, kis_f, Z.argsOf, Z.argOf, Z.backTo, Z.outsOf, List.any_nil, List.any_cons, k2_pow18]
    refine ⟨fun hp => ?_, fun hp => ?_⟩
    · simp only [T_law_flow_2_0, ↓We_var, ↓We_int, ↓We_str, ↓We_bl, ↓We_non, ↓We_gl, ↓We_dspc, ↓We_fs, ↓We_tup, ↓We_lst, ↓We_op1, ↓We_op2, ↓We_sm1, ↓We_slc, ↓We_isi, ↓We_and, ↓We_or, ↓We_one, ↓We_not, ↓We_ife, ↓We_chn, ↓We_pop, ↓We_call, ↓We_callk, ↓We_comp, ↓Wr_var, ↓Wr_int, ↓Wr_str, ↓Wr_bl, ↓Wr_non, ↓Wr_gl, ↓Wr_dspc, ↓Wr_fs, ↓Wr_tup, ↓Wr_lst, ↓Wr_op1, ↓Wr_op2, ↓Wr_sm1, ↓Wr_slc, ↓Wr_isi, ↓Wr_and, ↓Wr_or, ↓Wr_not, ↓Wr_ife, ↓Wr_chn, ↓Wr_pop, ↓Wr_call, ↓Wr_callk, ↓Wr_comp, ↓Ws_set, ↓Ws_unp, ↓Ws_unps, ↓Ws_app, ↓Ws_seti, ↓Ws_setf, ↓Ws_expr, ↓Ws_ife, ↓Ws_for, ↓Ws_while, ↓Ws_ret, ↓Ws_retv, ↓Ws_retn, ↓Ws_brk, ↓Ws_cont, ↓Ws_pass, ↓Wss_cons, ↓Wss_nil, ↓Wes_nil, ↓Wes_cons, ↓Wo_none, ↓Wo_some, ↓Was_nil, ↓Was_ev, ↓Was_pk, ↓Wcall_def, catA_nil, catA_cons, ↓Wsrc_seq, ↓Wsrc_rng1, ↓Wsrc_rng2, ↓Wsrc_zip, ↓seq_nx, ↓seq_rt, ↓seq_bk, ↓seq_ct, ↓seq_ex, ↓W1_some, ↓WJ_some, ↓W1_none, ↓WJ_none, ↓Wf_fz, ↓Wf_lst, ↓Wf_dct, ↓Wf_obj, ↓Wb_bl, ↓Wi_int, ↓Wif_true, ↓Wif_false, ↓Wv_fz, ↓Wv_ow, ↓Wv_owd, ↓Wv_owo, ↓Wsem_ok, ↓setR_fz, ↓setR_fr, ↓Wrv_some, ↓Wpk_some, ↓Wunp_fz, ↓Wunps_lst, ↓WisL_lst, ↓Wapp_ow, ↓Wapp_io, ↓Wseti_ow, ↓Wseti_io, ↓Wretv_fz, ↓Wretv_ow, ↓Wpop_io, ↓Wpop_ow, ↓Wturn_none, ↓Wturn_some, ↓accO_some, ↓accO_none, ↓res_val, ↓res_pk, ↓slotD_0, ↓slotD_s, W1_some, WJ_some, W1_none, WJ_none, Wf_fz, Wf_lst, Wf_dct, Wf_obj, Wb_bl, Wi_int, Wif_true, Wif_false, Wv_fz, Wv_ow, Wv_owd, Wv_owo, Wsem_ok, setR_fz, setR_fr, Wrv_some, Wpk_some, Wunp_fz, Wunps_lst, WisL_lst, Wapp_ow, Wapp_io, Wseti_ow, Wseti_io, Wretv_fz, Wretv_ow, Wpop_io, Wpop_ow, accO_some, accO_none, Int.reduceLT, Int.reduceLE, Nat.reduceLT, Nat.reduceLeDiff, Int.reduceToNat, Int.reduceAdd, Int.reduceSub, Int.reduceMul, Int.reduceNeg, decide_true, decide_false, Bool.or_true, Bool.true_or, Bool.or_false, Bool.false_or, Bool.and_true, Bool.true_and, Bool.and_false, Bool.false_and, Bool.not_true, Bool.not_false, and_true, true_and, Option.map_some, Option.map_none, Option.bind_some, Option.bind_none, List.set_cons_zero, List.set_cons_succ, k1_len_str, k1_len_tup, k1_len_lst, k1_len_frl, k1_abs, k1_neg, k1_int, k1_intb, k1_tuple_lst, k1_tuple_tup, k1_list_lst, k1_list_tup, k1_rev, k1_isN, k1_notN, k2_add, k2_add_str, k2_add_lst, k2_sub, k1_isT, k1_notT, k2_mul, k2_muls, k2_fdiv, k2_mod, k2_pow6, k2_pow18, k2_pow12, k2_lt, k2_le, k2_gt, k2_ge, k2_eq, k2_ne, k2_in, k2_notin, k2_idx, idx_0, idx_1, idx_2, idx_3, idt_0, idt_1, idt_2, idt_3, k2_max, slc_str, slc_lst, slc_frl, seq_lst, seq_tup, seq_str, turnE_nx, turnE_ct, turnE_rt, turnE_bk, wipeD, backW, freeT_nil, freeT_cons, freeT1_none, freeT1_fz, freeT1_fzs, lockI, lockD_n, lockD_s, openD_n, openD_s, bindT_1, bindT_2, bindM, size_le, List.foldl_cons, List.foldl_nil, List.all_cons, List.all_nil, List.getElem?_cons_zero, List.getElem?_cons_succ, Option.join_some, Option.join_none, List.zip_cons_cons, List.zip_nil_left, List.length_cons, List.length_nil, List.length_append, Nat.reduceAdd, Nat.reduceEqDiff, Bool.false_eq_true, if_true, if_false, ↓reduceIte, ite_true, ite_false, ki_int_int, ki_int_str, ki_int_bool, ki_int_list, ki_int_tuple, ki_int_dict, ki_bl_int, ki_bl_str, ki_bl_bool, ki_bl_list, ki_bl_tuple, ki_bl_dict, ki_str_int, ki_str_str, ki_str_bool, ki_str_list, ki_str_tuple, ki_str_dict, ki_lst_int, ki_lst_str, ki_lst_bool, ki_lst_list, ki_lst_tuple, ki_lst_dict, ki_frl_int, ki_frl_str, ki_frl_bool, ki_frl_list, ki_frl_tuple, ki_frl_dict, ki_tup_int, ki_tup_str, ki_tup_bool, ki_tup_list, ki_tup_tuple, ki_tup_dict, ki_dct_int, ki_dct_str, ki_dct_bool, ki_dct_list, ki_dct_tuple, ki_dct_dict, ki_non_int, ki_non_str, ki_non_bool, ki_non_list, ki_non_tuple, ki_non_dict, kis_nil, kis_t, kis_f, Z.argsOf, Z.argOf, Z.backTo, Z.outsOf, List.any_nil, List.any_cons]
      refine ⟨range62_lit (by decide), ?_⟩
      refine Wfor.rng (fun j δ => ∃ acc v c, δ = fst sc acc cs (some (.fz, .int I)) (some (.fz, .int v)) c d ∧ acc.length ≤ i * 400 + j ∧ Small acc ∧ 0 ≤ v) ⟨acc, v, c, rfl, hl, hs, hv0⟩ ?_ ?_
      · rintro j δ hj ⟨acc, v, c, rfl, hl, hs, hv0⟩
        simp only [fst, T_law_flow_3_0, ↓We_var, ↓We_int, ↓We_str, ↓We_bl, ↓We_non, ↓We_gl, ↓We_dspc, ↓We_fs, ↓We_tup, ↓We_lst, ↓We_op1, ↓We_op2, ↓We_sm1, ↓We_slc, ↓We_isi, ↓We_and, ↓We_or, ↓We_one, ↓We_not, ↓We_ife, ↓We_chn, ↓We_pop, ↓We_call, ↓We_callk, ↓We_comp, ↓Wr_var, ↓Wr_int, ↓Wr_str, ↓Wr_bl, ↓Wr_non, ↓Wr_gl, ↓Wr_dspc, ↓Wr_fs, ↓Wr_tup, ↓Wr_lst, ↓Wr_op1, ↓Wr_op2, ↓Wr_sm1, ↓Wr_slc, ↓Wr_isi, ↓Wr_and, ↓Wr_or, ↓Wr_not, ↓Wr_ife, ↓Wr_chn, ↓Wr_pop, ↓Wr_call, ↓Wr_callk, ↓Wr_comp, ↓Ws_set, ↓Ws_unp, ↓Ws_unps, ↓Ws_app, ↓Ws_seti, ↓Ws_setf, ↓Ws_expr, ↓Ws_ife, ↓Ws_for, ↓Ws_while, ↓Ws_ret, ↓Ws_retv, ↓Ws_retn, ↓Ws_brk, ↓Ws_cont, ↓Ws_pass, ↓Wss_cons, ↓Wss_nil, ↓Wes_nil, ↓Wes_cons, ↓Wo_none, ↓Wo_some, ↓Was_nil, ↓Was_ev, ↓Was_pk, ↓Wcall_def, catA_nil, catA_cons, ↓Wsrc_seq, ↓Wsrc_rng1, ↓Wsrc_rng2, ↓Wsrc_zip, ↓seq_nx, ↓seq_rt, ↓seq_bk, ↓seq_ct, ↓seq_ex, ↓W1_some, ↓WJ_some, ↓W1_none, ↓WJ_none, ↓Wf_fz, ↓Wf_lst, ↓Wf_dct, ↓Wf_obj, ↓Wb_bl, ↓Wi_int, ↓Wif_true, ↓Wif_false, ↓Wv_fz, ↓Wv_ow, ↓Wv_owd, ↓Wv_owo, ↓Wsem_ok, ↓setR_fz, ↓setR_fr, ↓Wrv_some, ↓Wpk_some, ↓Wunp_fz, ↓Wunps_lst, ↓WisL_lst, ↓Wapp_ow, ↓Wapp_io, ↓Wseti_ow, ↓Wseti_io, ↓Wretv_fz, ↓Wretv_ow, ↓Wpop_io, ↓Wpop_ow, ↓Wturn_none, ↓Wturn_some, ↓accO_some, ↓accO_none, ↓res_val, ↓res_pk, ↓slotD_0, ↓slotD_s, W1_some, WJ_some, W1_none, WJ_none, Wf_fz, Wf_lst, Wf_dct, Wf_obj, Wb_bl, Wi_int, Wif_true, Wif_false, Wv_fz, Wv_ow, Wv_owd, Wv_owo, Wsem_ok, setR_fz, setR_fr, Wrv_some, Wpk_some, Wunp_fz, Wunps_lst, WisL_lst, Wapp_ow, Wapp_io, Wseti_ow, Wseti_io, Wretv_fz, Wretv_ow, Wpop_io, Wpop_ow, accO_some, accO_none, Int.reduceLT, Int.reduceLE, Nat.reduceLT, Nat.reduceLeDiff, Int.reduceToNat, Int.reduceAdd, Int.reduceSub, Int.reduceMul, Int.reduceNeg, decide_true, decide_false, Bool.or_true, Bool.true_or, Bool.or_false, Bool.false_or, Bool.and_true, Bool.true_and, Bool.and_false, Bool.false_and, Bool.not_true, Bool.not_false, and_true, true_and, Option.map_some, Option.map_none, Option.bind_some, Option.bind_none, List.set_cons_zero, List.set_cons_succ, k1_len_str, k1_len_tup, k1_len_lst, k1_len_frl, k1_abs, k1_neg, k1_int, k1_intb, k1_tuple_lst, k1_tuple_tup, k1_list_lst, k1_list_tup, k1_rev, k1_isN, k1_notN, k2_add, k2_add_str, k2_add_lst, k2_sub, k1_isT, k1_notT, k2_mul, k2_muls, k2_fdiv, k2_mod, k2_pow6, k2_pow18, k2_pow12, k2_lt, k2_le, k2_gt, k2_ge, k2_eq, k2_ne, k2_in, k2_notin, k2_idx, idx_0, idx_1, idx_2, idx_3, idt_0, idt_1, idt_2, idt_3, k2_max, slc_str, slc_lst, slc_frl, seq_lst, seq_tup, seq_str, turnE_nx, turnE_ct, turnE_rt, turnE_bk, wipeD, backW, freeT_nil, freeT_cons, freeT1_none, freeT1_fz, freeT1_fzs, lockI, lockD_n, lockD_s, openD_n, openD_s, bindT_1, bindT_2, bindM, size_le, List.foldl_cons, List.foldl_nil, List.all_cons, List.all_nil, List.getElem?_cons_zero, List.getElem?_cons_succ, Option.join_some, Option.join_none, List.zip_cons_cons, List.zip_nil_left, List.length_cons, List.length_nil, List.length_append, Nat.reduceAdd, Nat.reduceEqDiff, Bool.false_eq_true, if_true, if_false, ↓reduceIte, ite_true, ite_false, ki_int_int, ki_int_str, ki_int_bool, ki_int_list, ki_int_tuple, ki_int_dict, ki_bl_int, ki_bl_str, ki_bl_bool, ki_bl_list, ki_bl_tuple, ki_bl_dict, ki_str_int, ki_str_str, ki_str_bool, ki_str_list, ki_str_tuple, ki_str_dict, ki_lst_int, ki_lst_str, ki_lst_bool, ki_lst_list, ki_lst_tuple, ki_lst_dict, ki_frl_int, ki_frl_str, ki_frl_bool, ki_frl_list, ki_frl_tuple, ki_frl_dict, ki_tup_int, ki_tup_str, ki_tup_bool, ki_tup_list, ki_tup_tuple, ki_tup_dict, ki_dct_int, ki_dct_str, ki_dct_bool, ki_dct_list, ki_dct_tuple, ki_dct_dict, ki_non_int, ki_non_str, ki_non_bool, ki_non_list, ki_non_tuple, ki_non_dict, kis_nil, kis_t, kis_f, Z.argsOf, Z.argOf, Z.backTo, Z.outsOf, List.any_nil, List.any_cons]
        refine ⟨fun hp => ?_, fun hp => ?_⟩
        · simp only [T_law_flow_4_0, ↓We_var, ↓We_int, ↓We_str, ↓We_bl, ↓We_non, ↓We_gl, ↓We_dspc, ↓We_fs, ↓We_tup, ↓We_lst, ↓We_op1, ↓We_op2, ↓We_sm1, ↓We_slc, ↓We_isi, ↓We_and, ↓We_or, ↓We_one, ↓We_not, ↓We_ife, ↓We_chn, ↓We_pop, ↓We_call, ↓We_callk, ↓We_comp, ↓Wr_var, ↓Wr_int, ↓Wr_str, ↓Wr_bl, ↓Wr_non, ↓Wr_gl, ↓Wr_dspc, ↓Wr_fs, ↓Wr_tup, ↓Wr_lst, ↓Wr_op1, ↓Wr_op2, ↓Wr_sm1, ↓Wr_slc, ↓Wr_isi, ↓Wr_and, ↓Wr_or, ↓Wr_not, ↓Wr_ife, ↓Wr_chn, ↓Wr_pop, ↓Wr_call, ↓Wr_callk, ↓Wr_comp, ↓Ws_set, ↓Ws_unp, ↓Ws_unps, ↓Ws_app, ↓Ws_seti, ↓Ws_setf, ↓Ws_expr, ↓Ws_ife, ↓Ws_for, ↓Ws_while, ↓Ws_ret, ↓Ws_retv, ↓Ws_retn, ↓Ws_brk, ↓Ws_cont, ↓Ws_pass, ↓Wss_cons, ↓Wss_nil, ↓Wes_nil, ↓Wes_cons, ↓Wo_none, ↓Wo_some, ↓Was_nil, ↓Was_ev, ↓Was_pk, ↓Wcall_def, catA_nil, catA_cons, ↓Wsrc_seq, ↓Wsrc_rng1, ↓Wsrc_rng2, ↓Wsrc_zip, ↓seq_nx, ↓seq_rt, ↓seq_bk, ↓seq_ct, ↓seq_ex, ↓W1_some, ↓WJ_some, ↓W1_none, ↓WJ_none, ↓Wf_fz, ↓Wf_lst, ↓Wf_dct, ↓Wf_obj, ↓Wb_bl, ↓Wi_int, ↓Wif_true, ↓Wif_false, ↓Wv_fz, ↓Wv_ow, ↓Wv_owd, ↓Wv_owo, ↓Wsem_ok, ↓setR_fz, ↓setR_fr, ↓Wrv_some, ↓Wpk_some, ↓Wunp_fz, ↓Wunps_lst, ↓WisL_lst, ↓Wapp_ow, ↓Wapp_io, ↓Wseti_ow, ↓Wseti_io, ↓Wretv_fz, ↓Wretv_ow, ↓Wpop_io, ↓Wpop_ow, ↓Wturn_none, ↓Wturn_some, ↓accO_some, ↓accO_none, ↓res_val, ↓res_pk, ↓slotD_0, ↓slotD_s, W1_some, WJ_some, W1_none, WJ_none, Wf_fz, Wf_lst, Wf_dct, Wf_obj, Wb_bl, Wi_int, Wif_true, Wif_false, Wv_fz, Wv_ow, Wv_owd, Wv_owo, Wsem_ok, setR_fz, setR_fr, Wrv_some, Wpk_some, Wunp_fz, Wunps_lst, WisL_lst, Wapp_ow, Wapp_io, Wseti_ow, Wseti_io, Wretv_fz, Wretv_ow, Wpop_io, Wpop_ow, accO_some, accO_none, Int.reduceLT, Int.reduceLE, Nat.reduceLT, Nat.reduceLeDiff, Int.reduceToNat, Int.reduceAdd, Int.reduceSub, Int.reduceMul, Int.reduceNeg, decide_true, decide_false, Bool.or_true, Bool.true_or, Bool.or_false, Bool.false_or, Bool.and_true, Bool.true_and, Bool.and_false, Bool.false_and, Bool.not_true, Bool.not_false, and_true, true_and, Option.map_some, Option.map_none, Option.bind_some, Option.bind_none, List.set_cons_zero, List.set_cons_succ, k1_len_str, k1_len_tup, k1_len_lst, k1_len_frl, k1_abs, k1_neg, k1_int, k1_intb, k1_tuple_lst, k1_tuple_tup, k1_list_lst, k1_list_tup, k1_rev, k1_isN, k1_notN, k2_add, k2_add_str, k2_add_lst, k2_sub, k1_isT, k1_notT, k2_mul, k2_muls, k2_fdiv, k2_mod, k2_pow6, k2_pow18, k2_pow12, k2_lt, k2_le, k2_gt, k2_ge, k2_eq, k2_ne, k2_in, k2_notin, k2_idx, idx_0, idx_1, idx_2, idx_3, idt_0, idt_1, idt_2, idt_3, k2_max, slc_str, slc_lst, slc_frl, seq_lst, seq_tup, seq_str, turnE_nx, turnE_ct, turnE_rt, turnE_bk, wipeD, backW, freeT_nil, freeT_cons, freeT1_none, freeT1_fz, freeT1_fzs, lockI, lockD_n, lockD_s, openD_n, openD_s, bindT_1, bindT_2, bindM, size_le, List.foldl_cons, List.foldl_nil, List.all_cons, List.all_nil, List.getElem?_cons_zero, List.getElem?_cons_succ, Option.join_some, Option.join_none, List.zip_cons_cons, List.zip_nil_left, List.length_cons, List.length_nil, List.length_append, Nat.reduceAdd, Nat.reduceEqDiff, Bool.false_eq_true, if_true, if_false, ↓reduceIte, ite_true, ite_false, ki_int_int, ki_int_str, ki_int_bool, ki_int_list, ki_int_tuple, ki_int_dict, ki_bl_int, ki_bl_str, ki_bl_bool, ki_bl_list, ki_bl_tuple, ki_bl_dict, ki_str_int, ki_str_str, ki_str_bool, ki_str_list, ki_str_tuple, ki_str_dict, ki_lst_int, ki_lst_str, ki_lst_bool, ki_lst_list, ki_lst_tuple, ki_lst_dict, ki_frl_int, ki_frl_str, ki_frl_bool, ki_frl_list, ki_frl_tuple, ki_frl_dict, ki_tup_int, ki_tup_str, ki_tup_bool, ki_tup_list, ki_tup_tuple, ki_tup_dict, ki_dct_int, ki_dct_str, ki_dct_bool, ki_dct_list, ki_dct_tuple, ki_dct_dict, ki_non_int, ki_non_str, ki_non_bool, ki_non_list, ki_non_tuple, ki_non_dict, kis_nil, kis_t, kis_f, Z.argsOf, Z.argOf, Z.backTo, Z.outsOf, List.any_nil, List.any_cons, k2_pow6]
          refine ⟨by rw [List.length_map]; exact (show acc.length < 16777216 by omega), ?_⟩
          simp only [T_law_flow_4_1, ↓We_var, ↓We_int, ↓We_str, ↓We_bl, ↓We_non, ↓We_gl, ↓We_dspc, ↓We_fs, ↓We_tup, ↓We_lst, ↓We_op1, ↓We_op2, ↓We_sm1, ↓We_slc, ↓We_isi, ↓We_and, ↓We_or, ↓We_one, ↓We_not, ↓We_ife, ↓We_chn, ↓We_pop, ↓We_call, ↓We_callk, ↓We_comp, ↓Wr_var, ↓Wr_int, ↓Wr_str, ↓Wr_bl, ↓Wr_non, ↓Wr_gl, ↓Wr_dspc, ↓Wr_fs, ↓Wr_tup, ↓Wr_lst, ↓Wr_op1, ↓Wr_op2, ↓Wr_sm1, ↓Wr_slc, ↓Wr_isi, ↓Wr_and, ↓Wr_or, ↓Wr_not, ↓Wr_ife, ↓Wr_chn, ↓Wr_pop, ↓Wr_call, ↓Wr_callk, ↓Wr_comp, ↓Ws_set, ↓Ws_unp, ↓Ws_unps, ↓Ws_app, ↓Ws_seti, ↓Ws_setf, ↓Ws_expr, ↓Ws_ife, ↓Ws_for, ↓Ws_while, ↓Ws_ret, ↓Ws_retv, ↓Ws_retn, ↓Ws_brk, ↓Ws_cont, ↓Ws_pass, ↓Wss_cons, ↓Wss_nil, ↓Wes_nil, ↓Wes_cons, ↓Wo_none, ↓Wo_some, ↓Was_nil, ↓Was_ev, ↓Was_pk, ↓Wcall_def, catA_nil, catA_cons, ↓Wsrc_seq, ↓Wsrc_rng1, ↓Wsrc_rng2, ↓Wsrc_zip, ↓seq_nx, ↓seq_rt, ↓seq_bk, ↓seq_ct, ↓seq_ex, ↓W1_some, ↓WJ_some, ↓W1_none, ↓WJ_none, ↓Wf_fz, ↓Wf_lst, ↓Wf_dct, ↓Wf_obj, ↓Wb_bl, ↓Wi_int, ↓Wif_true, ↓Wif_false, ↓Wv_fz, ↓Wv_ow, ↓Wv_owd, ↓Wv_owo, ↓Wsem_ok, ↓setR_fz, ↓setR_fr, ↓Wrv_some, ↓Wpk_some, ↓Wunp_fz, ↓Wunps_lst, ↓WisL_lst, ↓Wapp_ow, ↓Wapp_io, ↓Wseti_ow, ↓Wseti_io, ↓Wretv_fz, ↓Wretv_ow, ↓Wpop_io, ↓Wpop_ow, ↓Wturn_none, ↓Wturn_some, ↓accO_some, ↓accO_none, ↓res_val, ↓res_pk, ↓slotD_0, ↓slotD_s, W1_some, WJ_some, W1_none, WJ_none, Wf_fz, Wf_lst, Wf_dct, Wf_obj, Wb_bl, Wi_int, Wif_true, Wif_false, Wv_fz, Wv_ow, Wv_owd, Wv_owo, Wsem_ok, setR_fz, setR_fr, Wrv_some, Wpk_some, Wunp_fz, Wunps_lst, WisL_lst, Wapp_ow, Wapp_io, Wseti_ow, Wseti_io, Wretv_fz, Wretv_ow, Wpop_io, Wpop_ow, accO_some, accO_none, Int.reduceLT, Int.reduceLE, Nat.reduceLT, Nat.reduceLeDiff, Int.reduceToNat, Int.reduceAdd, Int.reduceSub, Int.reduceMul, Int.reduceNeg, decide_true, decide_false, Bool.or_true, Bool.true_or, Bool.or_false, Bool.false_or, Bool.and_true, Bool.true_and, Bool.and_false, Bool.false_and, Bool.not_true, Bool.not_false, and_true, true_and, Option.map_some, Option.map_none, Option.bind_some, Option.bind_none, List.set_cons_zero, List.set_cons_succ, k1_len_str, k1_len_tup, k1_len_lst, k1_len_frl, k1_abs, k1_neg, k1_int, k1_intb, k1_tuple_lst, k1_tuple_tup, k1_list_lst, k1_list_tup, k1_rev, k1_isN, k1_notN, k2_add, k2_add_str, k2_add_lst, k2_sub, k1_isT, k1_notT, k2_mul, k2_muls, k2_fdiv, k2_mod, k2_pow6, k2_pow18, k2_pow12, k2_lt, k2_le, k2_gt, k2_ge, k2_eq, k2_ne, k2_in, k2_notin, k2_idx, idx_0, idx_1, idx_2, idx_3, idt_0, idt_1, idt_2, idt_3, k2_max, slc_str, slc_lst, slc_frl, seq_lst, seq_tup, seq_str, turnE_nx, turnE_ct, turnE_rt, turnE_bk, wipeD, backW, freeT_nil, freeT_cons, freeT1_none, freeT1_fz, freeT1_fzs, lockI, lockD_n, lockD_s, openD_n, openD_s, bindT_1, bindT_2, bindM, size_le, List.foldl_cons, List.foldl_nil, List.all_cons, List.all_nil, List.getElem?_cons_zero, List.getElem?_cons_succ, Option.join_some, Option.join_none, List.zip_cons_cons, List.zip_nil_left, List.length_cons, List.length_nil, List.length_append, Nat.reduceAdd, Nat.reduceEqDiff, Bool.false_eq_true, if_true, if_false, ↓reduceIte, ite_true, ite_false, ki_int_int, ki_int_str, ki_int_bool, ki_int_list, ki_int_tuple, ki_int_dict, ki_bl_int, ki_bl_str, ki_bl_bool, ki_bl_list, ki_bl_tuple, ki_bl_dict, ki_str_int, ki_str_str, ki_str_bool, ki_str_list, ki_str_tuple, ki_str_dict, ki_lst_int, ki_lst_str, ki_lst_bool, ki_lst_list, ki_lst_tuple, ki_lst_dict, ki_frl_int, ki_frl_str, ki_frl_bool, ki_frl_list, ki_frl_tuple, ki_frl_dict, ki_tup_int, ki_tup_str, ki_tup_bool, ki_tup_list, ki_tup_tuple, ki_tup_dict, ki_dct_int, ki_dct_str, ki_dct_bool, ki_dct_list, ki_dct_tuple, ki_dct_dict, ki_non_int, ki_non_str, ki_non_bool, ki_non_list, ki_non_tuple, ki_non_dict, kis_nil, kis_t, kis_f, Z.argsOf, Z.argOf, Z.backTo, Z.outsOf, List.any_nil, List.any_cons, k2_pow6]
          refine ⟨acc ++ [v % 1000000], v / 1000000, _, by simp only [fst, List.map_append, List.map_cons, List.map_nil]; rfl, by simp; omega, small_snoc hs, Int.ediv_nonneg hv0 (by decide)⟩
        · exact ⟨acc, v, _, rfl, by omega, hs, hv0⟩
      · rintro δ ⟨acc, v, c, rfl, hl, hs, hv0⟩
        simp only [↓We_var, ↓We_int, ↓We_str, ↓We_bl, ↓We_non, ↓We_gl, ↓We_dspc, ↓We_fs, ↓We_tup, ↓We_lst, ↓We_op1, ↓We_op2, ↓We_sm1, ↓We_slc, ↓We_isi, ↓We_and, ↓We_or, ↓We_one, ↓We_not, ↓We_ife, ↓We_chn, ↓We_pop, ↓We_call, ↓We_callk, ↓We_comp, ↓Wr_var, ↓Wr_int, ↓Wr_str, ↓Wr_bl, ↓Wr_non, ↓Wr_gl, ↓Wr_dspc, ↓Wr_fs, ↓Wr_tup, ↓Wr_lst, ↓Wr_op1, ↓Wr_op2, ↓Wr_sm1, ↓Wr_slc, ↓Wr_isi, ↓Wr_and, ↓Wr_or, ↓Wr_not, ↓Wr_ife, ↓Wr_chn, ↓Wr_pop, ↓Wr_call, ↓Wr_callk, ↓Wr_comp, ↓Ws_set, ↓Ws_unp, ↓Ws_unps, ↓Ws_app, ↓Ws_seti, ↓Ws_setf, ↓Ws_expr, ↓Ws_ife, ↓Ws_for, ↓Ws_while, ↓Ws_ret, ↓Ws_retv, ↓Ws_retn, ↓Ws_brk, ↓Ws_cont, ↓Ws_pass, ↓Wss_cons, ↓Wss_nil, ↓Wes_nil, ↓Wes_cons, ↓Wo_none, ↓Wo_some, ↓Was_nil, ↓Was_ev, ↓Was_pk, ↓Wcall_def, catA_nil, catA_cons, ↓Wsrc_seq, ↓Wsrc_rng1, ↓Wsrc_rng2, ↓Wsrc_zip, ↓seq_nx, ↓seq_rt, ↓seq_bk, ↓seq_ct, ↓seq_ex, ↓W1_some, ↓WJ_some, ↓W1_none, ↓WJ_none, ↓Wf_fz, ↓Wf_lst, ↓Wf_dct, ↓Wf_obj, ↓Wb_bl, ↓Wi_int, ↓Wif_true, ↓Wif_false, ↓Wv_fz, ↓Wv_ow, ↓Wv_owd, ↓Wv_owo, ↓Wsem_ok, ↓setR_fz, ↓setR_fr, ↓Wrv_some, ↓Wpk_some, ↓Wunp_fz, ↓Wunps_lst, ↓WisL_lst, ↓Wapp_ow, ↓Wapp_io, ↓Wseti_ow, ↓Wseti_io, ↓Wretv_fz, ↓Wretv_ow, ↓Wpop_io, ↓Wpop_ow, ↓Wturn_none, ↓Wturn_some, ↓accO_some, ↓accO_none, ↓res_val, ↓res_pk, ↓slotD_0, ↓slotD_s, W1_some, WJ_some, W1_none, WJ_none, Wf_fz, Wf_lst, Wf_dct, Wf_obj, Wb_bl, Wi_int, Wif_true, Wif_false, Wv_fz, Wv_ow, Wv_owd, Wv_owo, Wsem_ok, setR_fz, setR_fr, Wrv_some, Wpk_some, Wunp_fz, Wunps_lst, WisL_lst, Wapp_ow, Wapp_io, Wseti_ow, Wseti_io, Wretv_fz, Wretv_ow, Wpop_io, Wpop_ow, accO_some, accO_none, Int.reduceLT, Int.reduceLE, Nat.reduceLT, Nat.reduceLeDiff, Int.reduceToNat, Int.reduceAdd, Int.reduceSub, Int.reduceMul, Int.reduceNeg, decide_true, decide_false, Bool.or_true, Bool.true_or, Bool.or_false, Bool.false_or, Bool.and_true, Bool.true_and, Bool.and_false, Bool.false_and, Bool.not_true, Bool.not_false, and_true, true_and, Option.map_some, Option.map_none, Option.bind_some, Option.bind_none, List.set_cons_zero, List.set_cons_succ, k1_len_str, k1_len_tup, k1_len_lst, k1_len_frl, k1_abs, k1_neg, k1_int, k1_intb, k1_tuple_lst, k1_tuple_tup, k1_list_lst, k1_list_tup, k1_rev, k1_isN, k1_notN, k2_add, k2_add_str, k2_add_lst, k2_sub, k1_isT, k1_notT, k2_mul, k2_muls, k2_fdiv, k2_mod, k2_pow6, k2_pow18, k2_pow12, k2_lt, k2_le, k2_gt, k2_ge, k2_eq, k2_ne, k2_in, k2_notin, k2_idx, idx_0, idx_1, idx_2, idx_3, idt_0, idt_1, idt_2, idt_3, k2_max, slc_str, slc_lst, slc_frl, seq_lst, seq_tup, seq_str, turnE_nx, turnE_ct, turnE_rt, turnE_bk, wipeD, backW, freeT_nil, freeT_cons, freeT1_none, freeT1_fz, freeT1_fzs, lockI, lockD_n, lockD_s, openD_n, openD_s, bindT_1, bindT_2, bindM, size_le, List.foldl_cons, List.foldl_nil, List.all_cons, List.all_nil, List.getElem?_cons_zero, List.getElem?_cons_succ, Option.join_some, Option.join_none, List.zip_cons_cons, List.zip_nil_left, List.length_cons, List.length_nil, List.length_append, Nat.reduceAdd, Nat.reduceEqDiff, Bool.false_eq_true, if_true, if_false, ↓reduceIte, ite_true, ite_false, ki_int_int, ki_int_str, ki_int_bool, ki_int_list, ki_int_tuple, ki_int_dict, ki_bl_int, ki_bl_str, ki_bl_bool, ki_bl_list, ki_bl_tuple, ki_bl_dict, ki_str_int, ki_str_str, ki_str_bool, ki_str_list, ki_str_tuple, ki_str_dict, ki_lst_int, ki_lst_str, ki_lst_bool, ki_lst_list, ki_lst_tuple, ki_lst_dict, ki_frl_int, ki_frl_str, ki_frl_bool, ki_frl_list, ki_frl_tuple, ki_frl_dict, ki_tup_int, ki_tup_str, ki_tup_bool, ki_tup_list, ki_tup_tuple, ki_tup_dict, ki_dct_int, ki_dct_str, ki_dct_bool, ki_dct_list, ki_dct_tuple, ki_dct_dict, ki_non_int, ki_non_str, ki_non_bool, ki_non_list, ki_non_tuple, ki_non_dict, kis_nil, kis_t, kis_f, Z.argsOf, Z.argOf, Z.backTo, Z.outsOf, List.any_nil, List.any_cons]
        exact ⟨acc, _, _, _, _, rfl, by have : (Int.toNat 60) = 60 := rfl; omega, hs⟩
    · simp only [T_law_flow_5_0, ↓We_var, ↓We_int, ↓We_str, ↓We_bl, ↓We_non, ↓We_gl, ↓We_dspc, ↓We_fs, ↓We_tup, ↓We_lst, ↓We_op1, ↓We_op2, ↓We_sm1, ↓We_slc, ↓We_isi, ↓We_and, ↓We_or, ↓We_one, ↓We_not, ↓We_ife, ↓We_chn, ↓We_pop, ↓We_call, ↓We_callk, ↓We_comp, ↓Wr_var, ↓Wr_int, ↓Wr_str, ↓Wr_bl, ↓Wr_non, ↓Wr_gl, ↓Wr_dspc, ↓Wr_fs, ↓Wr_tup, ↓Wr_lst, ↓Wr_op1, ↓Wr_op2, ↓Wr_sm1, ↓Wr_slc, ↓Wr_isi, ↓Wr_and, ↓Wr_or, ↓Wr_not, ↓Wr_ife, ↓Wr_chn, ↓Wr_pop, ↓Wr_call, ↓Wr_callk, ↓Wr_comp, ↓Ws_set, ↓Ws_unp, ↓Ws_unps, ↓Ws_app, ↓Ws_seti, ↓Ws_setf, ↓Ws_expr, ↓Ws_ife, ↓Ws_for, ↓Ws_while, ↓Ws_ret, ↓Ws_retv, ↓Ws_retn, ↓Ws_brk, ↓Ws_cont, ↓Ws_pass, ↓Wss_cons, ↓Wss_nil, ↓Wes_nil, ↓Wes_cons, ↓Wo_none, ↓Wo_some, ↓Was_nil, ↓Was_ev, ↓Was_pk, ↓Wcall_def, catA_nil, catA_cons, ↓Wsrc_seq, ↓Wsrc_rng1, ↓Wsrc_rng2, ↓Wsrc_zip, ↓seq_nx, ↓seq_rt, ↓seq_bk, ↓seq_ct, ↓seq_ex, ↓W1_some, ↓WJ_some, ↓W1_none, ↓WJ_none, ↓Wf_fz, ↓Wf_lst, ↓Wf_dct, ↓Wf_obj, ↓Wb_bl, ↓Wi_int, ↓Wif_true, ↓Wif_false, ↓Wv_fz, ↓Wv_ow, ↓Wv_owd, ↓Wv_owo, ↓Wsem_ok, ↓setR_fz, ↓setR_fr, ↓Wrv_some, ↓Wpk_some, ↓Wunp_fz, ↓Wunps_lst, ↓WisL_lst, ↓Wapp_ow, ↓Wapp_io, ↓Wseti_ow, ↓Wseti_io, ↓Wretv_fz, ↓Wretv_ow, ↓Wpop_io, ↓Wpop_ow, ↓Wturn_none, ↓Wturn_some, ↓accO_some, ↓accO_none, ↓res_val, ↓res_pk, ↓slotD_0, ↓slotD_s, W1_some, WJ_some, W1_none, WJ_none, Wf_fz, Wf_lst, Wf_dct, Wf_obj, Wb_bl, Wi_int, Wif_true, Wif_false, Wv_fz, Wv_ow, Wv_owd, Wv_owo, Wsem_ok, setR_fz, setR_fr, Wrv_some, Wpk_some, Wunp_fz, Wunps_lst, WisL_lst, Wapp_ow, Wapp_io, Wseti_ow, Wseti_io, Wretv_fz, Wretv_ow, Wpop_io, Wpop_ow, accO_some, accO_none, Int.reduceLT, Int.reduceLE, Nat.reduceLT, Nat.reduceLeDiff, Int.reduceToNat, Int.reduceAdd, Int.reduceSub, Int.reduceMul, Int.reduceNeg, decide_true, decide_false, Bool.or_true, Bool.true_or, Bool.or_false, Bool.false_or, Bool.and_true, Bool.true_and, Bool.and_false, Bool.false_and, Bool.not_true, Bool.not_false, and_true, true_and, Option.map_some, Option.map_none, Option.bind_some, Option.bind_none, List.set_cons_zero, List.set_cons_succ, k1_len_str, k1_len_tup, k1_len_lst, k1_len_frl, k1_abs, k1_neg, k1_int, k1_intb, k1_tuple_lst, k1_tuple_tup, k1_list_lst, k1_list_tup, k1_rev, k1_isN, k1_notN, k2_add, k2_add_str, k2_add_lst, k2_sub, k1_isT, k1_notT, k2_mul, k2_muls, k2_fdiv, k2_mod, k2_pow6, k2_pow18, k2_pow12, k2_lt, k2_le, k2_gt, k2_ge, k2_eq, k2_ne, k2_in, k2_notin, k2_idx, idx_0, idx_1, idx_2, idx_3, idt_0, idt_1, idt_2, idt_3, k2_max, slc_str, slc_lst, slc_frl, seq_lst, seq_tup, seq_str, turnE_nx, turnE_ct, turnE_rt, turnE_bk, wipeD, backW, freeT_nil, freeT_cons, freeT1_none, freeT1_fz, freeT1_fzs, lockI, lockD_n, lockD_s, openD_n, openD_s, bindT_1, bindT_2, bindM, size_le, List.foldl_cons, List.foldl_nil, List.all_cons, List.all_nil, List.getElem?_cons_zero, List.getElem?_cons_succ, Option.join_some, Option.join_none, List.zip_cons_cons, List.zip_nil_left, List.length_cons, List.length_nil, List.length_append, Nat.reduceAdd, Nat.reduceEqDiff, Bool.false_eq_true, if_true, if_false, ↓reduceIte, ite_true, ite_false, ki_int_int, ki_int_str, ki_int_bool, ki_int_list, ki_int_tuple, ki_int_dict, ki_bl_int, ki_bl_str, ki_bl_bool, ki_bl_list, ki_bl_tuple, ki_bl_dict, ki_str_int, ki_str_str, ki_str_bool, ki_str_list, ki_str_tuple, ki_str_dict, ki_lst_int, ki_lst_str, ki_lst_bool, ki_lst_list, ki_lst_tuple, ki_lst_dict, ki_frl_int, ki_frl_str, ki_frl_bool, ki_frl_list, ki_frl_tuple, ki_frl_dict, ki_tup_int, ki_tup_str, ki_tup_bool, ki_tup_list, ki_tup_tuple, ki_tup_dict, ki_dct_int, ki_dct_str, ki_dct_bool, ki_dct_list, ki_dct_tuple, ki_dct_dict, ki_non_int, ki_non_str, ki_non_bool, ki_non_list, ki_non_tuple, ki_non_dict, kis_nil, kis_t, kis_f, Z.argsOf, Z.argOf, Z.backTo, Z.outsOf, List.any_nil, List.any_cons]
      have hL1 : (0 : Int) < ((cs.map D.int).length : Int) := by simp; omega
      have hL2 : ((cs.map D.int).length : Int) ≤ 63 := by simp; omega
      obtain ⟨L, hL⟩ : ∃ L : Int, L = ((cs.map D.int).length : Int) := ⟨_, rfl⟩
      rw [← hL] at hL1 hL2 ⊢
      have hL3 : L < 1073741824 := by omega
      have h3 : 300 / L ≤ 300 := Int.ediv_le_self _ (by decide)
      have h4 : 0 ≤ 300 / L := Int.ediv_nonneg (by decide) (by omega)
      simp only [↓We_var, ↓We_int, ↓We_str, ↓We_bl, ↓We_non, ↓We_gl, ↓We_dspc, ↓We_fs, ↓We_tup, ↓We_lst, ↓We_op1, ↓We_op2, ↓We_sm1, ↓We_slc, ↓We_isi, ↓We_and, ↓We_or, ↓We_one, ↓We_not, ↓We_ife, ↓We_chn, ↓We_pop, ↓We_call, ↓We_callk, ↓We_comp, ↓Wr_var, ↓Wr_int, ↓Wr_str, ↓Wr_bl, ↓Wr_non, ↓Wr_gl, ↓Wr_dspc, ↓Wr_fs, ↓Wr_tup, ↓Wr_lst, ↓Wr_op1, ↓Wr_op2, ↓Wr_sm1, ↓Wr_slc, ↓Wr_isi, ↓Wr_and, ↓Wr_or, ↓Wr_not, ↓Wr_ife, ↓Wr_chn, ↓Wr_pop, ↓Wr_call, ↓Wr_callk, ↓Wr_comp, ↓Ws_set, ↓Ws_unp, ↓Ws_unps, ↓Ws_app, ↓Ws_seti, ↓Ws_setf, ↓Ws_expr, ↓Ws_ife, ↓Ws_for, ↓Ws_while, ↓Ws_ret, ↓Ws_retv, ↓Ws_retn, ↓Ws_brk, ↓Ws_cont, ↓Ws_pass, ↓Wss_cons, ↓Wss_nil, ↓Wes_nil, ↓Wes_cons, ↓Wo_none, ↓Wo_some, ↓Was_nil, ↓Was_ev, ↓Was_pk, ↓Wcall_def, catA_nil, catA_cons, ↓Wsrc_seq, ↓Wsrc_rng1, ↓Wsrc_rng2, ↓Wsrc_zip, ↓seq_nx, ↓seq_rt, ↓seq_bk, ↓seq_ct, ↓seq_ex, ↓W1_some, ↓WJ_some, ↓W1_none, ↓WJ_none, ↓Wf_fz, ↓Wf_lst, ↓Wf_dct, ↓Wf_obj, ↓Wb_bl, ↓Wi_int, ↓Wif_true, ↓Wif_false, ↓Wv_fz, ↓Wv_ow, ↓Wv_owd, ↓Wv_owo, ↓Wsem_ok, ↓setR_fz, ↓setR_fr, ↓Wrv_some, ↓Wpk_some, ↓Wunp_fz, ↓Wunps_lst, ↓WisL_lst, ↓Wapp_ow, ↓Wapp_io, ↓Wseti_ow, ↓Wseti_io, ↓Wretv_fz, ↓Wretv_ow, ↓Wpop_io, ↓Wpop_ow, ↓Wturn_none, ↓Wturn_some, ↓accO_some, ↓accO_none, ↓res_val, ↓res_pk, ↓slotD_0, ↓slotD_s, W1_some, WJ_some, W1_none, WJ_none, Wf_fz, Wf_lst, Wf_dct, Wf_obj, Wb_bl, Wi_int, Wif_true, Wif_false, Wv_fz, Wv_ow, Wv_owd, Wv_owo, Wsem_ok, setR_fz, setR_fr, Wrv_some, Wpk_some, Wunp_fz, Wunps_lst, WisL_lst, Wapp_ow, Wapp_io, Wseti_ow, Wseti_io, Wretv_fz, Wretv_ow, Wpop_io, Wpop_ow, accO_some, accO_none, Int.reduceLT, Int.reduceLE, Nat.reduceLT, Nat.reduceLeDiff, Int.reduceToNat, Int.reduceAdd, Int.reduceSub, Int.reduceMul, Int.reduceNeg, decide_true, decide_false, Bool.or_true, Bool.true_or, Bool.or_false, Bool.false_or, Bool.and_true, Bool.true_and, Bool.and_false, Bool.false_and, Bool.not_true, Bool.not_false, and_true, true_and, Option.map_some, Option.map_none, Option.bind_some, Option.bind_none, List.set_cons_zero, List.set_cons_succ, k1_len_str, k1_len_tup, k1_len_lst, k1_len_frl, k1_abs, k1_neg, k1_int, k1_intb, k1_tuple_lst, k1_tuple_tup, k1_list_lst, k1_list_tup, k1_rev, k1_isN, k1_notN, k2_add, k2_add_str, k2_add_lst, k2_sub, k1_isT, k1_notT, k2_mul, k2_muls, k2_fdiv, k2_mod, k2_pow6, k2_pow18, k2_pow12, k2_lt, k2_le, k2_gt, k2_ge, k2_eq, k2_ne, k2_in, k2_notin, k2_idx, idx_0, idx_1, idx_2, idx_3, idt_0, idt_1, idt_2, idt_3, k2_max, slc_str, slc_lst, slc_frl, seq_lst, seq_tup, seq_str, turnE_nx, turnE_ct, turnE_rt, turnE_bk, wipeD, backW, freeT_nil, freeT_cons, freeT1_none, freeT1_fz, freeT1_fzs, lockI, lockD_n, lockD_s, openD_n, openD_s, bindT_1, bindT_2, bindM, size_le, List.foldl_cons, List.foldl_nil, List.all_cons, List.all_nil, List.getElem?_cons_zero, List.getElem?_cons_succ, Option.join_some, Option.join_none, List.zip_cons_cons, List.zip_nil_left, List.length_cons, List.length_nil, List.length_append, Nat.reduceAdd, Nat.reduceEqDiff, Bool.false_eq_true, if_true, if_false, ↓reduceIte, ite_true, ite_false, ki_int_int, ki_int_str, ki_int_bool, ki_int_list, ki_int_tuple, ki_int_dict, ki_bl_int, ki_bl_str, ki_bl_bool, ki_bl_list, ki_bl_tuple, ki_bl_dict, ki_str_int, ki_str_str, ki_str_bool, ki_str_list, ki_str_tuple, ki_str_dict, ki_lst_int, ki_lst_str, ki_lst_bool, ki_lst_list, ki_lst_tuple, ki_lst_dict, ki_frl_int, ki_frl_str, ki_frl_bool, ki_frl_list, ki_frl_tuple, ki_frl_dict, ki_tup_int, ki_tup_str, ki_tup_bool, ki_tup_list, ki_tup_tuple, ki_tup_dict, ki_dct_int, ki_dct_str, ki_dct_bool, ki_dct_list, ki_dct_tuple, ki_dct_dict, ki_non_int, ki_non_str, ki_non_bool, ki_non_list, ki_non_tuple, ki_non_dict, kis_nil, kis_t, kis_f, Z.argsOf, Z.argOf, Z.backTo, Z.outsOf, List.any_nil, List.any_cons, hL1, hL3]
      generalize 300 / L = q at h3 h4 ⊢
      refine ⟨range62_lit (by omega), ?_⟩
      refine Wfor.rng (fun j δ => ∃ acc b c, δ = fst sc acc cs (some (.fz, .int I)) (some (.fz, .int v)) b c ∧ acc.length ≤ i * 400 + j ∧ Small acc) ⟨acc, c, d, rfl, hl, hs⟩ ?_ ?_
      · rintro j δ hj ⟨acc, b, c, rfl, hl, hs⟩
        obtain ⟨J, hJ⟩ : ∃ J : Int, J = 0 + (j : Int) := ⟨_, rfl⟩
        rw [← hJ]
        have hJ1 : J ≤ 301 := by omega
        have h1 : int64 (48271 + 130 * J) = true := int64_lit (by omega)
        have h2 : int64 130 = true := int64_lit (by decide)
        have h3 : int64 7919 = true := int64_lit (by decide)
        have h5 : int64 69621 = true := int64_lit (by decide)
        simp only [fst, T_law_flow_6_0, ↓We_var, ↓We_int, ↓We_str, ↓We_bl, ↓We_non, ↓We_gl, ↓We_dspc, ↓We_fs, ↓We_tup, ↓We_lst, ↓We_op1, ↓We_op2, ↓We_sm1, ↓We_slc, ↓We_isi, ↓We_and, ↓We_or, ↓We_one, ↓We_not, ↓We_ife, ↓We_chn, ↓We_pop, ↓We_call, ↓We_callk, ↓We_comp, ↓Wr_var, ↓Wr_int, ↓Wr_str, ↓Wr_bl, ↓Wr_non, ↓Wr_gl, ↓Wr_dspc, ↓Wr_fs, ↓Wr_tup, ↓Wr_lst, ↓Wr_op1, ↓Wr_op2, ↓Wr_sm1, ↓Wr_slc, ↓Wr_isi, ↓Wr_and, ↓Wr_or, ↓Wr_not, ↓Wr_ife, ↓Wr_chn, ↓Wr_pop, ↓Wr_call, ↓Wr_callk, ↓Wr_comp, ↓Ws_set, ↓Ws_unp, ↓Ws_unps, ↓Ws_app, ↓Ws_seti, ↓Ws_setf, ↓Ws_expr, ↓Ws_ife, ↓Ws_for, ↓Ws_while, ↓Ws_ret, ↓Ws_retv, ↓Ws_retn, ↓Ws_brk, ↓Ws_cont, ↓Ws_pass, ↓Wss_cons, ↓Wss_nil, ↓Wes_nil, ↓Wes_cons, ↓Wo_none, ↓Wo_some, ↓Was_nil, ↓Was_ev, ↓Was_pk, ↓Wcall_def, catA_nil, catA_cons, ↓Wsrc_seq, ↓Wsrc_rng1, ↓Wsrc_rng2, ↓Wsrc_zip, ↓seq_nx, ↓seq_rt, ↓seq_bk, ↓seq_ct, ↓seq_ex, ↓W1_some, ↓WJ_some, ↓W1_none, ↓WJ_none, ↓Wf_fz, ↓Wf_lst, ↓Wf_dct, ↓Wf_obj, ↓Wb_bl, ↓Wi_int, ↓Wif_true, ↓Wif_false, ↓Wv_fz, ↓Wv_ow, ↓Wv_owd, ↓Wv_owo, ↓Wsem_ok, ↓setR_fz, ↓setR_fr, ↓Wrv_some, ↓Wpk_some, ↓Wunp_fz, ↓Wunps_lst, ↓WisL_lst, ↓Wapp_ow, ↓Wapp_io, ↓Wseti_ow, ↓Wseti_io, ↓Wretv_fz, ↓Wretv_ow, ↓Wpop_io, ↓Wpop_ow, ↓Wturn_none, ↓Wturn_some, ↓accO_some, ↓accO_none, ↓res_val, ↓res_pk, ↓slotD_0, ↓slotD_s, W1_some, WJ_some, W1_none, WJ_none, Wf_fz, Wf_lst, Wf_dct, Wf_obj, Wb_bl, Wi_int, Wif_true, Wif_false, Wv_fz, Wv_ow, Wv_owd, Wv_owo, Wsem_ok, setR_fz, setR_fr, Wrv_some, Wpk_some, Wunp_fz, Wunps_lst, WisL_lst, Wapp_ow, Wapp_io, Wseti_ow, Wseti_io, Wretv_fz, Wretv_ow, Wpop_io, Wpop_ow, accO_some, accO_none, Int.reduceLT, Int.reduceLE, Nat.reduceLT, Nat.reduceLeDiff, Int.reduceToNat, Int.reduceAdd, Int.reduceSub, Int.reduceMul, Int.reduceNeg, decide_true, decide_false, Bool.or_true, Bool.true_or, Bool.or_false, Bool.false_or, Bool.and_true, Bool.true_and, Bool.and_false, Bool.false_and, Bool.not_true, Bool.not_false, and_true, true_and, Option.map_some, Option.map_none, Option.bind_some, Option.bind_none, List.set_cons_zero, List.set_cons_succ, k1_len_str, k1_len_tup, k1_len_lst, k1_len_frl, k1_abs, k1_neg, k1_int, k1_intb, k1_tuple_lst, k1_tuple_tup, k1_list_lst, k1_list_tup, k1_rev, k1_isN, k1_notN, k2_add, k2_add_str, k2_add_lst, k2_sub, k1_isT, k1_notT, k2_mul, k2_muls, k2_fdiv, k2_mod, k2_pow6, k2_pow18, k2_pow12, k2_lt, k2_le, k2_gt, k2_ge, k2_eq, k2_ne, k2_in, k2_notin, k2_idx, idx_0, idx_1, idx_2, idx_3, idt_0, idt_1, idt_2, idt_3, k2_max, slc_str, slc_lst, slc_frl, seq_lst, seq_tup, seq_str, turnE_nx, turnE_ct, turnE_rt, turnE_bk, wipeD, backW, freeT_nil, freeT_cons, freeT1_none, freeT1_fz, freeT1_fzs, lockI, lockD_n, lockD_s, openD_n, openD_s, bindT_1, bindT_2, bindM, size_le, List.foldl_cons, List.foldl_nil, List.all_cons, List.all_nil, List.getElem?_cons_zero, List.getElem?_cons_succ, Option.join_some, Option.join_none, List.zip_cons_cons, List.zip_nil_left, List.length_cons, List.length_nil, List.length_append, Nat.reduceAdd, Nat.reduceEqDiff, Bool.false_eq_true, if_true, if_false, ↓reduceIte, ite_true, ite_false, ki_int_int, ki_int_str, ki_int_bool, ki_int_list, ki_int_tuple, ki_int_dict, ki_bl_int, ki_bl_str, ki_bl_bool, ki_bl_list, ki_bl_tuple, ki_bl_dict, ki_str_int, ki_str_str, ki_str_bool, ki_str_list, ki_str_tuple, ki_str_dict, ki_lst_int, ki_lst_str, ki_lst_bool, ki_lst_list, ki_lst_tuple, ki_lst_dict, ki_frl_int, ki_frl_str, ki_frl_bool, ki_frl_list, ki_frl_tuple, ki_frl_dict, ki_tup_int, ki_tup_str, ki_tup_bool, ki_tup_list, ki_tup_tuple, ki_tup_dict, ki_dct_int, ki_dct_str, ki_dct_bool, ki_dct_list, ki_dct_tuple, ki_dct_dict, ki_non_int, ki_non_str, ki_non_bool, ki_non_list, ki_non_tuple, ki_non_dict, kis_nil, kis_t, kis_f, Z.argsOf, Z.argOf, Z.backTo, Z.outsOf, List.any_nil, List.any_cons, hx, h1, h2, h3]
        generalize hm : ((v + 17) * (48271 + 130 * J) + 7919 * I + if decide (z < 0) = true then 1 else 0) % 2147483647 = m
        have hm0 : 0 ≤ m := by rw [← hm]; exact Int.emod_nonneg _ (by decide)
        have hm1 : m < 2147483647 := by rw [← hm]; exact Int.emod_lt_of_pos _ (by decide)
        have h6 : int64 m = true := int64_lit (by omega)
        simp only [T_law_flow_6_1, ↓We_var, ↓We_int, ↓We_str, ↓We_bl, ↓We_non, ↓We_gl, ↓We_dspc, ↓We_fs, ↓We_tup, ↓We_lst, ↓We_op1, ↓We_op2, ↓We_sm1, ↓We_slc, ↓We_isi, ↓We_and, ↓We_or, ↓We_one, ↓We_not, ↓We_ife, ↓We_chn, ↓We_pop, ↓We_call, ↓We_callk, ↓We_comp, ↓Wr_var, ↓Wr_int, ↓Wr_str, ↓Wr_bl, ↓Wr_non, ↓Wr_gl, ↓Wr_dspc, ↓Wr_fs, ↓Wr_tup, ↓Wr_lst, ↓Wr_op1, ↓Wr_op2, ↓Wr_sm1, ↓Wr_slc, ↓Wr_isi, ↓Wr_and, ↓Wr_or, ↓Wr_not, ↓Wr_ife, ↓Wr_chn, ↓Wr_pop, ↓Wr_call, ↓Wr_callk, ↓Wr_comp, ↓Ws_set, ↓Ws_unp, ↓Ws_unps, ↓Ws_app, ↓Ws_seti, ↓Ws_setf, ↓Ws_expr, ↓Ws_ife, ↓Ws_for, ↓Ws_while, ↓Ws_ret, ↓Ws_retv, ↓Ws_retn, ↓Ws_brk, ↓Ws_cont, ↓Ws_pass, ↓Wss_cons, ↓Wss_nil, ↓Wes_nil, ↓Wes_cons, ↓Wo_none, ↓Wo_some, ↓Was_nil, ↓Was_ev, ↓Was_pk, ↓Wcall_def, catA_nil, catA_cons, ↓Wsrc_seq, ↓Wsrc_rng1, ↓Wsrc_rng2, ↓Wsrc_zip, ↓seq_nx, ↓seq_rt, ↓seq_bk, ↓seq_ct, ↓seq_ex, ↓W1_some, ↓WJ_some, ↓W1_none, ↓WJ_none, ↓Wf_fz, ↓Wf_lst, ↓Wf_dct, ↓Wf_obj, ↓Wb_bl, ↓Wi_int, ↓Wif_true, ↓Wif_false, ↓Wv_fz, ↓Wv_ow, ↓Wv_owd, ↓Wv_owo, ↓Wsem_ok, ↓setR_fz, ↓setR_fr, ↓Wrv_some, ↓Wpk_some, ↓Wunp_fz, ↓Wunps_lst, ↓WisL_lst, ↓Wapp_ow, ↓Wapp_io, ↓Wseti_ow, ↓Wseti_io, ↓Wretv_fz, ↓Wretv_ow, ↓Wpop_io, ↓Wpop_ow, ↓Wturn_none, ↓Wturn_some, ↓accO_some, ↓accO_none, ↓res_val, ↓res_pk, ↓slotD_0, ↓slotD_s, W1_some, WJ_some, W1_none, WJ_none, Wf_fz, Wf_lst, Wf_dct, Wf_obj, Wb_bl, Wi_int, Wif_true, Wif_false, Wv_fz, Wv_ow, Wv_owd, Wv_owo, Wsem_ok, setR_fz, setR_fr, Wrv_some, Wpk_some, Wunp_fz, Wunps_lst, WisL_lst, Wapp_ow, Wapp_io, Wseti_ow, Wseti_io, Wretv_fz, Wretv_ow, Wpop_io, Wpop_ow, accO_some, accO_none, Int.reduceLT, Int.reduceLE, Nat.reduceLT, Nat.reduceLeDiff, Int.reduceToNat, Int.reduceAdd, Int.reduceSub, Int.reduceMul, Int.reduceNeg, decide_true, decide_false, Bool.or_true, Bool.true_or, Bool.or_false, Bool.false_or, Bool.and_true, Bool.true_and, Bool.and_false, Bool.false_and, Bool.not_true, Bool.not_false, and_true, true_and, Option.map_some, Option.map_none, Option.bind_some, Option.bind_none, List.set_cons_zero, List.set_cons_succ, k1_len_str, k1_len_tup, k1_len_lst, k1_len_frl, k1_abs, k1_neg, k1_int, k1_intb, k1_tuple_lst, k1_tuple_tup, k1_list_lst, k1_list_tup, k1_rev, k1_isN, k1_notN, k2_add, k2_add_str, k2_add_lst, k2_sub, k1_isT, k1_notT, k2_mul, k2_muls, k2_fdiv, k2_mod, k2_pow6, k2_pow18, k2_pow12, k2_lt, k2_le, k2_gt, k2_ge, k2_eq, k2_ne, k2_in, k2_notin, k2_idx, idx_0, idx_1, idx_2, idx_3, idt_0, idt_1, idt_2, idt_3, k2_max, slc_str, slc_lst, slc_frl, seq_lst, seq_tup, seq_str, turnE_nx, turnE_ct, turnE_rt, turnE_bk, wipeD, backW, freeT_nil, freeT_cons, freeT1_none, freeT1_fz, freeT1_fzs, lockI, lockD_n, lockD_s, openD_n, openD_s, bindT_1, bindT_2, bindM, size_le, List.foldl_cons, List.foldl_nil, List.all_cons, List.all_nil, List.getElem?_cons_zero, List.getElem?_cons_succ, Option.join_some, Option.join_none, List.zip_cons_cons, List.zip_nil_left, List.length_cons, List.length_nil, List.length_append, Nat.reduceAdd, Nat.reduceEqDiff, Bool.false_eq_true, if_true, if_false, ↓reduceIte, ite_true, ite_false, ki_int_int, ki_int_str, ki_int_bool, ki_int_list, ki_int_tuple, ki_int_dict, ki_bl_int, ki_bl_str, ki_bl_bool, ki_bl_list, ki_bl_tuple, ki_bl_dict, ki_str_int, ki_str_str, ki_str_bool, ki_str_list, ki_str_tuple, ki_str_dict, ki_lst_int, ki_lst_str, ki_lst_bool, ki_lst_list, ki_lst_tuple, ki_lst_dict, ki_frl_int, ki_frl_str, ki_frl_bool, ki_frl_list, ki_frl_tuple, ki_frl_dict, ki_tup_int, ki_tup_str, ki_tup_bool, ki_tup_list, ki_tup_tuple, ki_tup_dict, ki_dct_int, ki_dct_str, ki_dct_bool, ki_dct_list, ki_dct_tuple, ki_dct_dict, ki_non_int, ki_non_str, ki_non_bool, ki_non_list, ki_non_tuple, ki_non_dict, kis_nil, kis_t, kis_f, Z.argsOf, Z.argOf, Z.backTo, Z.outsOf, List.any_nil, List.any_cons, h5, h6]
        generalize hm' : (m * m + 69621 * (I + 1)) % 2147483629 = m'
        have hm0 : 0 ≤ m' := by rw [← hm']; exact Int.emod_nonneg _ (by decide)
        have hm1 : m' < 2147483629 := by rw [← hm']; exact Int.emod_lt_of_pos _ (by decide)
        have h7 : int64 m' = true := int64_lit (by omega)
        simp only [T_law_flow_6_2, ↓We_var, ↓We_int, ↓We_str, ↓We_bl, ↓We_non, ↓We_gl, ↓We_dspc, ↓We_fs, ↓We_tup, ↓We_lst, ↓We_op1, ↓We_op2, ↓We_sm1, ↓We_slc, ↓We_isi, ↓We_and, ↓We_or, ↓We_one, ↓We_not, ↓We_ife, ↓We_chn, ↓We_pop, ↓We_call, ↓We_callk, ↓We_comp, ↓Wr_var, ↓Wr_int, ↓Wr_str, ↓Wr_bl, ↓Wr_non, ↓Wr_gl, ↓Wr_dspc, ↓Wr_fs, ↓Wr_tup, ↓Wr_lst, ↓Wr_op1, ↓Wr_op2, ↓Wr_sm1, ↓Wr_slc, ↓Wr_isi, ↓Wr_and, ↓Wr_or, ↓Wr_not, ↓Wr_ife, ↓Wr_chn, ↓Wr_pop, ↓Wr_call, ↓Wr_callk, ↓Wr_comp, ↓Ws_set, ↓Ws_unp, ↓Ws_unps, ↓Ws_app, ↓Ws_seti, ↓Ws_setf, ↓Ws_expr, ↓Ws_ife, ↓Ws_for, ↓Ws_while, ↓Ws_ret, ↓Ws_retv, ↓Ws_retn, ↓Ws_brk, ↓Ws_cont, ↓Ws_pass, ↓Wss_cons, ↓Wss_nil, ↓Wes_nil, ↓Wes_cons, ↓Wo_none, ↓Wo_some, ↓Was_nil, ↓Was_ev, ↓Was_pk, ↓Wcall_def, catA_nil, catA_cons, ↓Wsrc_seq, ↓Wsrc_rng1, ↓Wsrc_rng2, ↓Wsrc_zip, ↓seq_nx, ↓seq_rt, ↓seq_bk, ↓seq_ct, ↓seq_ex, ↓W1_some, ↓WJ_some, ↓W1_none, ↓WJ_none, ↓Wf_fz, ↓Wf_lst, ↓Wf_dct, ↓Wf_obj, ↓Wb_bl, ↓Wi_int, ↓Wif_true, ↓Wif_false, ↓Wv_fz, ↓Wv_ow, ↓Wv_owd, ↓Wv_owo, ↓Wsem_ok, ↓setR_fz, ↓setR_fr, ↓Wrv_some, ↓Wpk_some, ↓Wunp_fz, ↓Wunps_lst, ↓WisL_lst, ↓Wapp_ow, ↓Wapp_io, ↓Wseti_ow, ↓Wseti_io, ↓Wretv_fz, ↓Wretv_ow, ↓Wpop_io, ↓Wpop_ow, ↓Wturn_none, ↓Wturn_some, ↓accO_some, ↓accO_none, ↓res_val, ↓res_pk, ↓slotD_0, ↓slotD_s, W1_some, WJ_some, W1_none, WJ_none, Wf_fz, Wf_lst, Wf_dct, Wf_obj, Wb_bl, Wi_int, Wif_true, Wif_false, Wv_fz, Wv_ow, Wv_owd, Wv_owo, Wsem_ok, setR_fz, setR_fr, Wrv_some, Wpk_some, Wunp_fz, Wunps_lst, WisL_lst, Wapp_ow, Wapp_io, Wseti_ow, Wseti_io, Wretv_fz, Wretv_ow, Wpop_io, Wpop_ow, accO_some, accO_none, Int.reduceLT, Int.reduceLE, Nat.reduceLT, Nat.reduceLeDiff, Int.reduceToNat, Int.reduceAdd, Int.reduceSub, Int.reduceMul, Int.reduceNeg, decide_true, decide_false, Bool.or_true, Bool.true_or, Bool.or_false, Bool.false_or, Bool.and_true, Bool.true_and, Bool.and_false, Bool.false_and, Bool.not_true, Bool.not_false, and_true, true_and, Option.map_some, Option.map_none, Option.bind_some, Option.bind_none, List.set_cons_zero, List.set_cons_succ, k1_len_str, k1_len_tup, k1_len_lst, k1_len_frl, k1_abs, k1_neg, k1_int, k1_intb, k1_tuple_lst, k1_tuple_tup, k1_list_lst, k1_list_tup, k1_rev, k1_isN, k1_notN, k2_add, k2_add_str, k2_add_lst, k2_sub, k1_isT, k1_notT, k2_mul, k2_muls, k2_fdiv, k2_mod, k2_pow6, k2_pow18, k2_pow12, k2_lt, k2_le, k2_gt, k2_ge, k2_eq, k2_ne, k2_in, k2_notin, k2_idx, idx_0, idx_1, idx_2, idx_3, idt_0, idt_1, idt_2, idt_3, k2_max, slc_str, slc_lst, slc_frl, seq_lst, seq_tup, seq_str, turnE_nx, turnE_ct, turnE_rt, turnE_bk, wipeD, backW, freeT_nil, freeT_cons, freeT1_none, freeT1_fz, freeT1_fzs, lockI, lockD_n, lockD_s, openD_n, openD_s, bindT_1, bindT_2, bindM, size_le, List.foldl_cons, List.foldl_nil, List.all_cons, List.all_nil, List.getElem?_cons_zero, List.getElem?_cons_succ, Option.join_some, Option.join_none, List.zip_cons_cons, List.zip_nil_left, List.length_cons, List.length_nil, List.length_append, Nat.reduceAdd, Nat.reduceEqDiff, Bool.false_eq_true, if_true, if_false, ↓reduceIte, ite_true, ite_false, ki_int_int, ki_int_str, ki_int_bool, ki_int_list, ki_int_tuple, ki_int_dict, ki_bl_int, ki_bl_str, ki_bl_bool, ki_bl_list, ki_bl_tuple, ki_bl_dict, ki_str_int, ki_str_str, ki_str_bool, ki_str_list, ki_str_tuple, ki_str_dict, ki_lst_int, ki_lst_str, ki_lst_bool, ki_lst_list, ki_lst_tuple, ki_lst_dict, ki_frl_int, ki_frl_str, ki_frl_bool, ki_frl_list, ki_frl_tuple, ki_frl_dict, ki_tup_int, ki_tup_str, ki_tup_bool, ki_tup_list, ki_tup_tuple, ki_tup_dict, ki_dct_int, ki_dct_str, ki_dct_bool, ki_dct_list, ki_dct_tuple, ki_dct_dict, ki_non_int, ki_non_str, ki_non_bool, ki_non_list, ki_non_tuple, ki_non_dict, kis_nil, kis_t, kis_f, Z.argsOf, Z.argOf, Z.backTo, Z.outsOf, List.any_nil, List.any_cons, h7]
        refine ⟨by rw [List.length_map]; exact (show acc.length < 16777216 by omega), ?_⟩
        exact ⟨acc ++ [m' * (m' + 40692) % 998244353 % 1000000], some (.fz, .int J), some (.fz, .int m'), by simp only [fst, List.map_append, List.map_cons, List.map_nil], by simp; omega, small_snoc hs⟩
      · rintro δ ⟨acc, b, c, rfl, hl, hs⟩
        simp only [↓We_var, ↓We_int, ↓We_str, ↓We_bl, ↓We_non, ↓We_gl, ↓We_dspc, ↓We_fs, ↓We_tup, ↓We_lst, ↓We_op1, ↓We_op2, ↓We_sm1, ↓We_slc, ↓We_isi, ↓We_and, ↓We_or, ↓We_one, ↓We_not, ↓We_ife, ↓We_chn, ↓We_pop, ↓We_call, ↓We_callk, ↓We_comp, ↓Wr_var, ↓Wr_int, ↓Wr_str, ↓Wr_bl, ↓Wr_non, ↓Wr_gl, ↓Wr_dspc, ↓Wr_fs, ↓Wr_tup, ↓Wr_lst, ↓Wr_op1, ↓Wr_op2, ↓Wr_sm1, ↓Wr_slc, ↓Wr_isi, ↓Wr_and, ↓Wr_or, ↓Wr_not, ↓Wr_ife, ↓Wr_chn, ↓Wr_pop, ↓Wr_call, ↓Wr_callk, ↓Wr_comp, ↓Ws_set, ↓Ws_unp, ↓Ws_unps, ↓Ws_app, ↓Ws_seti, ↓Ws_setf, ↓Ws_expr, ↓Ws_ife, ↓Ws_for, ↓Ws_while, ↓Ws_ret, ↓Ws_retv, ↓Ws_retn, ↓Ws_brk, ↓Ws_cont, ↓Ws_pass, ↓Wss_cons, ↓Wss_nil, ↓Wes_nil, ↓Wes_cons, ↓Wo_none, ↓Wo_some, ↓Was_nil, ↓Was_ev, ↓Was_pk, ↓Wcall_def, catA_nil, catA_cons, ↓Wsrc_seq, ↓Wsrc_rng1, ↓Wsrc_rng2, ↓Wsrc_zip, ↓seq_nx, ↓seq_rt, ↓seq_bk, ↓seq_ct, ↓seq_ex, ↓W1_some, ↓WJ_some, ↓W1_none, ↓WJ_none, ↓Wf_fz, ↓Wf_lst, ↓Wf_dct, ↓Wf_obj, ↓Wb_bl, ↓Wi_int, ↓Wif_true, ↓Wif_false, ↓Wv_fz, ↓Wv_ow, ↓Wv_owd, ↓Wv_owo, ↓Wsem_ok, ↓setR_fz, ↓setR_fr, ↓Wrv_some, ↓Wpk_some, ↓Wunp_fz, ↓Wunps_lst, ↓WisL_lst, ↓Wapp_ow, ↓Wapp_io, ↓Wseti_ow, ↓Wseti_io, ↓Wretv_fz, ↓Wretv_ow, ↓Wpop_io, ↓Wpop_ow, ↓Wturn_none, ↓Wturn_some, ↓accO_some, ↓accO_none, ↓res_val, ↓res_pk, ↓slotD_0, ↓slotD_s, W1_some, WJ_some, W1_none, WJ_none, Wf_fz, Wf_lst, Wf_dct, Wf_obj, Wb_bl, Wi_int, Wif_true, Wif_false, Wv_fz, Wv_ow, Wv_owd, Wv_owo, Wsem_ok, setR_fz, setR_fr, Wrv_some, Wpk_some, Wunp_fz, Wunps_lst, WisL_lst, Wapp_ow, Wapp_io, Wseti_ow, Wseti_io, Wretv_fz, Wretv_ow, Wpop_io, Wpop_ow, accO_some, accO_none, Int.reduceLT, Int.reduceLE, Nat.reduceLT, Nat.reduceLeDiff, Int.reduceToNat, Int.reduceAdd, Int.reduceSub, Int.reduceMul, Int.reduceNeg, decide_true, decide_false, Bool.or_true, Bool.true_or, Bool.or_false, Bool.false_or, Bool.and_true, Bool.true_and, Bool.and_false, Bool.false_and, Bool.not_true, Bool.not_false, and_true, true_and, Option.map_some, Option.map_none, Option.bind_some, Option.bind_none, List.set_cons_zero, List.set_cons_succ, k1_len_str, k1_len_tup, k1_len_lst, k1_len_frl, k1_abs, k1_neg, k1_int, k1_intb, k1_tuple_lst, k1_tuple_tup, k1_list_lst, k1_list_tup, k1_rev, k1_isN, k1_notN, k2_add, k2_add_str, k2_add_lst, k2_sub, k1_isT, k1_notT, k2_mul, k2_muls, k2_fdiv, k2_mod, k2_pow6, k2_pow18, k2_pow12, k2_lt, k2_le, k2_gt, k2_ge, k2_eq, k2_ne, k2_in, k2_notin, k2_idx, idx_0, idx_1, idx_2, idx_3, idt_0, idt_1, idt_2, idt_3, k2_max, slc_str, slc_lst, slc_frl, seq_lst, seq_tup, seq_str, turnE_nx, turnE_ct, turnE_rt, turnE_bk, wipeD, backW, freeT_nil, freeT_cons, freeT1_none, freeT1_fz, freeT1_fzs, lockI, lockD_n, lockD_s, openD_n, openD_s, bindT_1, bindT_2, bindM, size_le, List.foldl_cons, List.foldl_nil, List.all_cons, List.all_nil, List.getElem?_cons_zero, List.getElem?_cons_succ, Option.join_some, Option.join_none, List.zip_cons_cons, List.zip_nil_left, List.length_cons, List.length_nil, List.length_append, Nat.reduceAdd, Nat.reduceEqDiff, Bool.false_eq_true, if_true, if_false, ↓reduceIte, ite_true, ite_false, ki_int_int, ki_int_str, ki_int_bool, ki_int_list, ki_int_tuple, ki_int_dict, ki_bl_int, ki_bl_str, ki_bl_bool, ki_bl_list, ki_bl_tuple, ki_bl_dict, ki_str_int, ki_str_str, ki_str_bool, ki_str_list, ki_str_tuple, ki_str_dict, ki_lst_int, ki_lst_str, ki_lst_bool, ki_lst_list, ki_lst_tuple, ki_lst_dict, ki_frl_int, ki_frl_str, ki_frl_bool, ki_frl_list, ki_frl_tuple, ki_frl_dict, ki_tup_int, ki_tup_str, ki_tup_bool, ki_tup_list, ki_tup_tuple, ki_tup_dict, ki_dct_int, ki_dct_str, ki_dct_bool, ki_dct_list, ki_dct_tuple, ki_dct_dict, ki_non_int, ki_non_str, ki_non_bool, ki_non_list, ki_non_tuple, ki_non_dict, kis_nil, kis_t, kis_f, Z.argsOf, Z.argOf, Z.backTo, Z.outsOf, List.any_nil, List.any_cons]
        exact ⟨acc, _, _, _, _, rfl, by omega, hs⟩
  · rintro δ ⟨acc, a, b, c, d, rfl, hl, hs⟩
    simp only [fst, T_law_flow_0_3, ↓We_var, ↓We_int, ↓We_str, ↓We_bl, ↓We_non, ↓We_gl, ↓We_dspc, ↓We_fs, ↓We_tup, ↓We_lst, ↓We_op1, ↓We_op2, ↓We_sm1, ↓We_slc, ↓We_isi, ↓We_and, ↓We_or, ↓We_one, ↓We_not, ↓We_ife, ↓We_chn, ↓We_pop, ↓We_call, ↓We_callk, ↓We_comp, ↓Wr_var, ↓Wr_int, ↓Wr_str, ↓Wr_bl, ↓Wr_non, ↓Wr_gl, ↓Wr_dspc, ↓Wr_fs, ↓Wr_tup, ↓Wr_lst, ↓Wr_op1, ↓Wr_op2, ↓Wr_sm1, ↓Wr_slc, ↓Wr_isi, ↓Wr_and, ↓Wr_or, ↓Wr_not, ↓Wr_ife, ↓Wr_chn, ↓Wr_pop, ↓Wr_call, ↓Wr_callk, ↓Wr_comp, ↓Ws_set, ↓Ws_unp, ↓Ws_unps, ↓Ws_app, ↓Ws_seti, ↓Ws_setf, ↓Ws_expr, ↓Ws_ife, ↓Ws_for, ↓Ws_while, ↓Ws_ret, ↓Ws_retv, ↓Ws_retn, ↓Ws_brk, ↓Ws_cont, ↓Ws_pass, ↓Wss_cons, ↓Wss_nil, ↓Wes_nil, ↓Wes_cons, ↓Wo_none, ↓Wo_some, ↓Was_nil, ↓Was_ev, ↓Was_pk, ↓Wcall_def, catA_nil, catA_cons, ↓Wsrc_seq, ↓Wsrc_rng1, ↓Wsrc_rng2, ↓Wsrc_zip, ↓seq_nx, ↓seq_rt, ↓seq_bk, ↓seq_ct, ↓seq_ex, ↓W1_some, ↓WJ_some, ↓W1_none, ↓WJ_none, ↓Wf_fz, ↓Wf_lst, ↓Wf_dct, ↓Wf_obj, ↓Wb_bl, ↓Wi_int, ↓Wif_true, ↓Wif_false, ↓Wv_fz, ↓Wv_ow, ↓Wv_owd, ↓Wv_owo, ↓Wsem_ok, ↓setR_fz, ↓setR_fr, ↓Wrv_some, ↓Wpk_some, ↓Wunp_fz, ↓Wunps_lst, ↓WisL_lst, ↓Wapp_ow, ↓Wapp_io, ↓Wseti_ow, ↓Wseti_io, ↓Wretv_fz, ↓Wretv_ow, ↓Wpop_io, ↓Wpop_ow, ↓Wturn_none, ↓Wturn_some, ↓accO_some, ↓accO_none, ↓res_val, ↓res_pk, ↓slotD_0, ↓slotD_s, W1_some, WJ_some, W1_none, WJ_none, Wf_fz, Wf_lst, Wf_dct, Wf_obj, Wb_bl, Wi_int, Wif_true, Wif_false, Wv_fz, Wv_ow, Wv_owd, Wv_owo, Wsem_ok, setR_fz, setR_fr, Wrv_some, Wpk_some, Wunp_fz, Wunps_lst, WisL_lst, Wapp_ow, Wapp_io, Wseti_ow, Wseti_io, Wretv_fz, Wretv_ow, Wpop_io, Wpop_ow, accO_some, accO_none, Int.reduceLT, Int.reduceLE, Nat.reduceLT, Nat.reduceLeDiff, Int.reduceToNat, Int.reduceAdd, Int.reduceSub, Int.reduceMul, Int.reduceNeg, decide_true, decide_false, Bool.or_true, Bool.true_or, Bool.or_false, Bool.false_or, Bool.and_true, Bool.true_and, Bool.and_false, Bool.false_and, Bool.not_true, Bool.not_false, and_true, true_and, Option.map_some, Option.map_none, Option.bind_some, Option.bind_none, List.set_cons_zero, List.set_cons_succ, k1_len_str, k1_len_tup, k1_len_lst, k1_len_frl, k1_abs, k1_neg, k1_int, k1_intb, k1_tuple_lst, k1_tuple_tup, k1_list_lst, k1_list_tup, k1_rev, k1_isN, k1_notN, k2_add, k2_add_str, k2_add_lst, k2_sub, k1_isT, k1_notT, k2_mul, k2_muls, k2_fdiv, k2_mod, k2_pow6, k2_pow18, k2_pow12, k2_lt, k2_le, k2_gt, k2_ge, k2_eq, k2_ne, k2_in, k2_notin, k2_idx, idx_0, idx_1, idx_2, idx_3, idt_0, idt_1, idt_2, idt_3, k2_max, slc_str, slc_lst, slc_frl, seq_lst, seq_tup, seq_str, turnE_nx, turnE_ct, turnE_rt, turnE_bk, wipeD, backW, freeT_nil, freeT_cons, freeT1_none, freeT1_fz, freeT1_fzs, lockI, lockD_n, lockD_s, openD_n, openD_s, bindT_1, bindT_2, bindM, size_le, List.foldl_cons, List.foldl_nil, List.all_cons, List.all_nil, List.getElem?_cons_zero, List.getElem?_cons_succ, Option.join_some, Option.join_none, List.zip_cons_cons, List.zip_nil_left, List.length_cons, List.length_nil, List.length_append, Nat.reduceAdd, Nat.reduceEqDiff, Bool.false_eq_true, if_true, if_false, ↓reduceIte, ite_true, ite_false, ki_int_int, ki_int_str, ki_int_bool, ki_int_list, ki_int_tuple, ki_int_dict, ki_bl_int, ki_bl_str, ki_bl_bool, ki_bl_list, ki_bl_tuple, ki_bl_dict, ki_str_int, ki_str_str, ki_str_bool, ki_str_list, ki_str_tuple, ki_str_dict, ki_lst_int, ki_lst_str, ki_lst_bool, ki_lst_list, ki_lst_tuple, ki_lst_dict, ki_frl_int, ki_frl_str, ki_frl_bool, ki_frl_list, ki_frl_tuple, ki_frl_dict, ki_tup_int, ki_tup_str, ki_tup_bool, ki_tup_list, ki_tup_tuple, ki_tup_dict, ki_dct_int, ki_dct_str, ki_dct_bool, ki_dct_list, ki_dct_tuple, ki_dct_dict, ki_non_int, ki_non_str, ki_non_bool, ki_non_list, ki_non_tuple, ki_non_dict, kis_nil, kis_t, kis_f, Z.argsOf, Z.argOf, Z.backTo, Z.outsOf, List.any_nil, List.any_cons]
    exact ⟨acc.reverse, fun z hz => hs z (List.mem_reverse.mp hz), by rw [flw, List.map_reverse]⟩
end Z

set_option Elab.async false
set_option linter.all false
set_option maxHeartbeats 1000000
set_option maxRecDepth 100000
/-! ZAtom: level 2, ints and texts. -/
namespace Z
open PySem
/-- ints and texts -/
def Atom (d : D) : Prop := (∃ i, d = .int i) ∨ ∃ s, d = .str s ∧ ∀ c ∈ s, c < 1114112
theorem Atom.pl {d : D} (h : Atom d) : plD d = true := by
  rcases h with ⟨i, rfl⟩ | ⟨s, rfl, h⟩
  · rfl
  · simp [plD]; exact h
theorem Atom.dp {d : D} (h : Atom d) : dpD d = 0 := by
  rcases h with ⟨i, rfl⟩ | ⟨s, rfl, h⟩ <;> rfl
theorem eqD_atom {d e : D} (h : Atom d) (h' : Atom e) : eqD d e = some (decide (d = e)) := eqD_dec h.pl h'.pl (by rw [h.dp]; decide) (by rw [h'.dp]; decide)
theorem atoms_pl {ds : List D} (h : ∀ d ∈ ds, Atom d) : plDs ds = true ∧ dpDs ds = 0 := by
  induction ds with
  | nil => exact ⟨rfl, rfl⟩
  | cons d ds ih =>
    have a := h d List.mem_cons_self
    have b := ih fun e he => h e (List.mem_cons_of_mem _ he)
    simp [plDs, dpDs, a.pl, a.dp, b.1, b.2]
theorem eqD_tups {ds es : List D} (h : ∀ d ∈ ds, Atom d) (h' : ∀ d ∈ es, Atom d) : eqD (.tup ds) (.tup es) = some (decide (ds = es)) := by
  rw [eqD_dec (by simp [plD, (atoms_pl h).1]) (by simp [plD, (atoms_pl h').1]) (by simp [dpD, (atoms_pl h).2]) (by simp [dpD, (atoms_pl h').2])]
  simp
theorem eqD_lsts {ds es : List D} (h : ∀ d ∈ ds, Atom d) (h' : ∀ d ∈ es, Atom d) : eqD (.lst ds) (.lst es) = some (decide (ds = es)) := by
  rw [eqD_dec (by simp [plD, (atoms_pl h).1]) (by simp [plD, (atoms_pl h').1]) (by simp [dpD, (atoms_pl h).2]) (by simp [dpD, (atoms_pl h').2])]
  simp
end Z

set_option Elab.async false
set_option linter.all false
set_option maxHeartbeats 1000000
set_option maxRecDepth 100000
/-! ZTxt: level 2, what the methods of a text give, as lists of code points. -/
namespace Z
open PySem
theorem cps_sx (s : List Nat) : cpsD (sx s) = s := rfl
theorem tl_sx (s : List Nat) : TL.tl (sx s) = s := rfl
/-- parts between the separators -/
theorem split_L {s y : List Nat} (hy : y ≠ []) (hk : y.all (· < 256) = true) : ((Txt.split (sx s) (sx y)).map fun z => D.str (cpsD z)) = (TL.spl y 0 [] s).map D.str := by
  have h := TL.split_spl (sx s) (sx y) hy (TL.kind_ok (by simpa [sx] using hk))
  rw [tl_sx, tl_sx] at h
  rw [← h, List.map_map]
  rfl
theorem m1_split {s y : List Nat} (hy : y ≠ []) (hk : y.all (· < 256) = true) (hz : s.length ≤ 16777214) : m1 .split s (.str y) = some (.fr (.lst ((TL.spl y 0 [] s).map D.str))) := by
  have h1 : y.length ≠ 0 ∧ s.length + 2 ≤ sizeL := ⟨by simpa using hy, by show s.length + 2 ≤ 16777216; omega⟩
  simp only [m1]
  rw [if_pos h1, split_L hy hk]
theorem lstrip_L {s t : List Nat} : cpsD (Txt.lstripChars (sx s) (sx t)) = s.dropWhile fun c => decide (c ∈ t) := by
  unfold Txt.lstripChars
  rw [PySem.W.stripBy_eq]
  show cpsD (Builtin.Str.strSub (sx s) ((s.takeWhile t.toArray.contains).length) (sx s).length) = _
  have e1 : (Builtin.Str.strSub (sx s) ((s.takeWhile t.toArray.contains).length) (sx s).length) = sx (s.drop (s.takeWhile t.toArray.contains).length) := by
    apply TL.ext_tl
    rw [TL.tl_strSub_end]
    rfl
  rw [e1, cps_sx]
  have e2 : (t.toArray.contains : Nat → Bool) = fun c => decide (c ∈ t) := by
    funext c
    simp
  rw [e2]
  clear e1 e2
  induction s with
  | nil => rfl
  | cons c s ih =>
    by_cases h : c ∈ t
    · simp [List.takeWhile_cons, List.dropWhile_cons, h]
      exact ih
    · simp [List.takeWhile_cons, List.dropWhile_cons, h]
theorem m1_lstrip {s t : List Nat} (hz : s.length ≤ sizeL) : m1 .lstrip s (.str t) = some (.fz (.str (s.dropWhile fun c => decide (c ∈ t)))) := by
  simp only [m1, hz, if_true, lstrip_L]
theorem spl_ne (y : List Nat) : ∀ (s : List Nat) (k : Nat) (acc : List Nat), TL.spl y k acc s ≠ []
  | [], k, acc => by rw [TL.spl_nil]; simp
  | c :: s, 0, acc => by
    cases h : TL.pre y (c :: s) with
    | true => rw [TL.spl_hit h]; simp
    | false => rw [TL.spl_miss h]; exact spl_ne y s 0 _
  | c :: s, k + 1, acc => by
    show TL.spl y k acc s ≠ []
    exact spl_ne y s k acc
/-- what holds of all signs holds of the parts' signs -/
theorem spl_all {P : Nat → Prop} (y : List Nat) : ∀ (s : List Nat) (k : Nat) (acc : List Nat), (∀ c ∈ acc, P c) → (∀ c ∈ s, P c) → ∀ p ∈ TL.spl y k acc s, ∀ c ∈ p, P c
  | [], k, acc, ha, hs, p, hp => by
    rw [TL.spl_nil] at hp
    rw [List.mem_singleton.mp hp]
    exact ha
  | c :: s, 0, acc, ha, hs, p, hp => by
    have hs' : ∀ d ∈ s, P d := fun d h => hs d (List.mem_cons_of_mem _ h)
    cases h : TL.pre y (c :: s) with
    | true =>
      rw [TL.spl_hit h] at hp
      rcases List.mem_cons.mp hp with rfl | hp
      · exact ha
      · exact spl_all y s _ [] (by simp) hs' p hp
    | false =>
      rw [TL.spl_miss h] at hp
      refine spl_all y s 0 _ (fun d hd => ?_) hs' p hp
      rcases List.mem_append.mp hd with h | h
      · exact ha d h
      · rw [List.mem_singleton.mp h]; exact hs c List.mem_cons_self
  | c :: s, k + 1, acc, ha, hs, p, hp => spl_all y s k acc ha (fun d h => hs d (List.mem_cons_of_mem _ h)) p hp
theorem spl_lens (y : List Nat) : ∀ (s : List Nat) (k : Nat) (acc : List Nat), (TL.spl y k acc s).length ≤ s.length + 1 ∧ ∀ p ∈ TL.spl y k acc s, p.length ≤ acc.length + s.length
  | [], k, acc => by rw [TL.spl_nil]; simp
  | c :: s, 0, acc => by
    cases h : TL.pre y (c :: s) with
    | true =>
      rw [TL.spl_hit h]
      obtain ⟨h1, h2⟩ := spl_lens y s (y.length - 1) []
      refine ⟨by simp; exact h1, fun p hp => ?_⟩
      rcases List.mem_cons.mp hp with rfl | hp
      · omega
      · have := h2 p hp
        simp at this ⊢
        omega
    | false =>
      rw [TL.spl_miss h]
      obtain ⟨h1, h2⟩ := spl_lens y s 0 (acc ++ [c])
      refine ⟨by simp; omega, fun p hp => ?_⟩
      have := h2 p hp
      simp at this ⊢
      omega
  | c :: s, k + 1, acc => by
    obtain ⟨h1, h2⟩ := spl_lens y s k acc
    refine ⟨Nat.le_trans h1 (by simp), fun p hp => Nat.le_trans (h2 p hp) (by simp)⟩
theorem inD_str {c : Nat} {t : List Nat} : inD (.str [c]) (.str t) = some (decide (c ∈ t)) := rfl
/-- where a sign stands first -/
theorem find_L (s : List Nat) (c : Nat) : (c ∉ s ∧ Txt.find (sx s) (sx [c]) = -1) ∨ ∃ a b, s = a ++ c :: b ∧ c ∉ a ∧ Txt.find (sx s) (sx [c]) = (a.length : Int) := by
  have pre1 : ∀ l : List Nat, TL.pre [c] l = true ↔ ∃ b, l = c :: b := by
    intro l
    cases l with
    | nil => simp [TL.pre]
    | cons d l => simp [TL.pre]
  have at1 : ∀ i, StrLaws.At (sx s) (sx [c]) (sx s).length i ↔ ∃ b, s.drop i = c :: b := by
    intro i
    rw [TL.at_iff (by rw [tl_sx]; simp), tl_sx, tl_sx, pre1]
  rcases StrLaws.occ_head (sx s) (sx [c]) 1 (Nat.le_refl _) with ⟨h0, hn⟩ | ⟨i, r, h0, ha, hn⟩
  · refine .inl ⟨fun hc => ?_, by unfold Txt.find; rw [h0]⟩
    obtain ⟨a, b, rfl⟩ := List.append_of_mem hc
    exact hn a.length ((at1 _).mpr ⟨b, by simp⟩)
  · refine .inr ?_
    obtain ⟨b, hb⟩ := (at1 i).mp ha
    have hi : i < s.length := by
      rcases Nat.lt_or_ge i s.length with h | h
      · exact h
      · rw [List.drop_eq_nil_of_le h] at hb; cases hb
    refine ⟨s.take i, b, by rw [← hb, List.take_append_drop], fun hc => ?_, by unfold Txt.find; rw [h0]; simp [List.length_take, Nat.min_eq_left (Nat.le_of_lt hi)]⟩
    obtain ⟨k, hk, e⟩ := List.mem_iff_getElem.mp hc
    have hk' : k < i := by simp at hk; omega
    have e' : s[k]'(by omega) = c := by rw [← e]; simp
    refine hn k hk' ((at1 k).mpr ⟨s.drop (k + 1), ?_⟩)
    rw [List.drop_eq_getElem_cons (by omega), e']
theorem m1_find {s : List Nat} {c : Nat} : m1 .find s (.str [c]) = some (.fz (.int (Txt.find (sx s) (sx [c])))) := rfl
/-- one of a list of texts -/
theorem menuS {ts : List (List Nat)} {v : Nat} (h : v < ts.length) : ∃ t, t ∈ ts ∧ idxD (.lst (ts.map D.str)) (.int v) = some (.str t) := by
  refine ⟨ts[v], List.getElem_mem h, ?_⟩
  rw [lst_get (by simpa using h)]
  simp
end Z

set_option Elab.async false
set_option linter.all false
set_option maxHeartbeats 1000000
set_option maxRecDepth 100000
/-! PNames: what the defs of names.py compute. -/
namespace Z
open PySem
/-- signs of a text that can be -/
def Ok (s : List Nat) : Prop := (∀ c ∈ s, c < 1114112) ∧ s.length ≤ 1000
theorem Ok.size {s : List Nat} (h : Ok s) : s.length ≤ sizeL := Nat.le_trans h.2 (by decide)
theorem Ok.sub {s t : List Nat} (h : Ok s) (k : ∀ c ∈ t, c ∈ s) (l : t.length ≤ s.length) : Ok t := ⟨fun c hc => h.1 c (k c hc), Nat.le_trans l h.2⟩
theorem Ok.drop {s : List Nat} (h : Ok s) (n : Nat) : Ok (s.drop n) := h.sub (fun c hc => List.mem_of_mem_drop hc) (by simp)
abbrev DIG : List Nat := [48, 49, 50, 51, 52, 53, 54, 55, 56, 57]
abbrev CAP : List Nat := [65, 66, 67, 68, 69, 70, 71, 72, 73, 74, 75, 76, 77, 78, 79, 80, 81, 82, 83, 84, 85, 86, 87, 88, 89, 90]
abbrev SML : List Nat := [97, 98, 99, 100, 101, 102, 103, 104, 105, 106, 107, 108, 109, 110, 111, 112, 113, 114, 115, 116, 117, 118, 119, 120, 121, 122]
def onlyB (s t : List Nat) : Bool := s.all fun c => decide (c ∈ t)
theorem blsD_map {α : Type} (f : α → Bool) (xs : List α) : blsD (xs.map fun a => D.bl (f a)) = some (xs.map f) := by
  induction xs with
  | nil => rfl
  | cons a xs ih => simp [blsD, ih]
theorem k1_all {α : Type} (f : α → Bool) (xs : List α) : k1 .all (.lst (xs.map fun a => D.bl (f a))) = some (.fz (.bl (xs.all f))) := by
  simp only [k1, blsD_map, Option.map_some]
  rw [List.all_map]
  rfl
theorem filterMap_some {α β : Type} (f : α → β) (xs : List α) : (xs.filterMap fun a => some (f a)) = xs.map f := by
  induction xs with
  | nil => rfl
  | cons a xs ih => simp
theorem has_only_ok {s t : List Nat} (hs : Ok s) : Fhas_only.sem [(.fz, .str s), (.fz, .str t)] = .ok (.fz (.bl (onlyB s t))) [.str s, .str t] := by
  rw [Fhas_only_sem]; refine runF_eq (np := 2) rfl ?_; simp only [List.map_cons, List.map_nil, List.replicate, Nat.reduceSub, List.replicate_zero, List.cons_append, List.nil_append, Bhas_only, Thas_only_0_0]
  simp only [↓We_var, ↓We_int, ↓We_str, ↓We_bl, ↓We_non, ↓We_gl, ↓We_dspc, ↓We_fs, ↓We_tup, ↓We_lst, ↓We_op1, ↓We_op2, ↓We_sm1, ↓We_slc, ↓We_isi, ↓We_and, ↓We_or, ↓We_one, ↓We_not, ↓We_ife, ↓We_chn, ↓We_pop, ↓We_call, ↓We_callk, ↓We_comp, ↓Wr_var, ↓Wr_int, ↓Wr_str, ↓Wr_bl, ↓Wr_non, ↓Wr_gl, ↓Wr_dspc, ↓Wr_fs, ↓Wr_tup, ↓Wr_lst, ↓Wr_op1, ↓Wr_op2, ↓Wr_sm1, ↓Wr_slc, ↓Wr_isi, ↓Wr_and, ↓Wr_or, ↓Wr_not, ↓Wr_ife, ↓Wr_chn, ↓Wr_pop, ↓Wr_call, ↓Wr_callk, ↓Wr_comp, ↓Ws_set, ↓Ws_unp, ↓Ws_unps, ↓Ws_app, ↓Ws_seti, ↓Ws_setf, ↓Ws_expr, ↓Ws_ife, ↓Ws_for, ↓Ws_while, ↓Ws_ret, ↓Ws_retv, ↓Ws_retn, ↓Ws_brk, ↓Ws_cont, ↓Ws_pass, ↓Wss_cons, ↓Wss_nil, ↓Wes_nil, ↓Wes_cons, ↓Wo_none, ↓Wo_some, ↓Was_nil, ↓Was_ev, ↓Was_pk, ↓Wcall_def, catA_nil, catA_cons, ↓Wsrc_seq, ↓Wsrc_rng1, ↓Wsrc_rng2, ↓Wsrc_zip, ↓seq_nx, ↓seq_rt, ↓seq_bk, ↓seq_ct, ↓seq_ex, ↓W1_some, ↓WJ_some, ↓W1_none, ↓WJ_none, ↓Wf_fz, ↓Wf_lst, ↓Wf_dct, ↓Wf_obj, ↓Wb_bl, ↓Wi_int, ↓Wif_true, ↓Wif_false, ↓Wv_fz, ↓Wv_ow, ↓Wv_owd, ↓Wv_owo, ↓Wsem_ok, ↓setR_fz, ↓setR_fr, ↓Wrv_some, ↓Wpk_some, ↓Wunp_fz, ↓Wunps_lst, ↓WisL_lst, ↓Wapp_ow, ↓Wapp_io, ↓Wseti_ow, ↓Wseti_io, ↓Wretv_fz, ↓Wretv_ow, ↓Wpop_io, ↓Wpop_ow, ↓Wturn_none, ↓Wturn_some, ↓accO_some, ↓accO_none, ↓res_val, ↓res_pk, ↓slotD_0, ↓slotD_s, W1_some, WJ_some, W1_none, WJ_none, Wf_fz, Wf_lst, Wf_dct, Wf_obj, Wb_bl, Wi_int, Wif_true, Wif_false, Wv_fz, Wv_ow, Wv_owd, Wv_owo, Wsem_ok, setR_fz, setR_fr, Wrv_some, Wpk_some, Wunp_fz, Wunps_lst, WisL_lst, Wapp_ow, Wapp_io, Wseti_ow, Wseti_io, Wretv_fz, Wretv_ow, Wpop_io, Wpop_ow, accO_some, accO_none, Int.reduceLT, Int.reduceLE, Nat.reduceLT, Nat.reduceLeDiff, Int.reduceToNat, Int.reduceAdd, Int.reduceSub, Int.reduceMul, Int.reduceNeg, decide_true, decide_false, Bool.or_true, Bool.true_or, Bool.or_false, Bool.false_or, Bool.and_true, Bool.true_and, Bool.and_false, Bool.false_and, Bool.not_true, Bool.not_false, and_true, true_and, Option.map_some, Option.map_none, Option.bind_some, Option.bind_none, List.set_cons_zero, List.set_cons_succ, k1_len_str, k1_len_tup, k1_len_lst, k1_len_frl, k1_abs, k1_neg, k1_int, k1_intb, k1_tuple_lst, k1_tuple_tup, k1_list_lst, k1_list_tup, k1_rev, k1_isN, k1_notN, k2_add, k2_add_str, k2_add_lst, k2_sub, k1_isT, k1_notT, k2_mul, k2_muls, k2_fdiv, k2_mod, k2_pow6, k2_pow18, k2_pow12, k2_lt, k2_le, k2_gt, k2_ge, k2_eq, k2_ne, k2_in, k2_notin, k2_idx, idx_0, idx_1, idx_2, idx_3, idt_0, idt_1, idt_2, idt_3, k2_max, slc_str, slc_lst, slc_frl, seq_lst, seq_tup, seq_str, turnE_nx, turnE_ct, turnE_rt, turnE_bk, wipeD, backW, freeT_nil, freeT_cons, freeT1_none, freeT1_fz, freeT1_fzs, lockI, lockD_n, lockD_s, openD_n, openD_s, bindT_1, bindT_2, bindM, size_le, List.foldl_cons, List.foldl_nil, List.all_cons, List.all_nil, List.getElem?_cons_zero, List.getElem?_cons_succ, Option.join_some, Option.join_none, List.zip_cons_cons, List.zip_nil_left, List.length_cons, List.length_nil, List.length_append, Nat.reduceAdd, Nat.reduceEqDiff, Bool.false_eq_true, if_true, if_false, ↓reduceIte, ite_true, ite_false, ki_int_int, ki_int_str, ki_int_bool, ki_int_list, ki_int_tuple, ki_int_dict, ki_bl_int, ki_bl_str, ki_bl_bool, ki_bl_list, ki_bl_tuple, ki_bl_dict, ki_str_int, ki_str_str, ki_str_bool, ki_str_list, ki_str_tuple, ki_str_dict, ki_lst_int, ki_lst_str, ki_lst_bool, ki_lst_list, ki_lst_tuple, ki_lst_dict, ki_frl_int, ki_frl_str, ki_frl_bool, ki_frl_list, ki_frl_tuple, ki_frl_dict, ki_tup_int, ki_tup_str, ki_tup_bool, ki_tup_list, ki_tup_tuple, ki_tup_dict, ki_dct_int, ki_dct_str, ki_dct_bool, ki_dct_list, ki_dct_tuple, ki_dct_dict, ki_non_int, ki_non_str, ki_non_bool, ki_non_list, ki_non_tuple, ki_non_dict, kis_nil, kis_t, kis_f, Z.argsOf, Z.argOf, Z.backTo, Z.outsOf, List.any_nil, List.any_cons]
  refine Wcomp.fm s (fun c => .str [c]) (fun c => some (.bl (decide (c ∈ t)))) rfl hs.size rfl rfl ?_ rfl ?_
  · intro c hc
    simp only [↓We_var, ↓We_int, ↓We_str, ↓We_bl, ↓We_non, ↓We_gl, ↓We_dspc, ↓We_fs, ↓We_tup, ↓We_lst, ↓We_op1, ↓We_op2, ↓We_sm1, ↓We_slc, ↓We_isi, ↓We_and, ↓We_or, ↓We_one, ↓We_not, ↓We_ife, ↓We_chn, ↓We_pop, ↓We_call, ↓We_callk, ↓We_comp, ↓Wr_var, ↓Wr_int, ↓Wr_str, ↓Wr_bl, ↓Wr_non, ↓Wr_gl, ↓Wr_dspc, ↓Wr_fs, ↓Wr_tup, ↓Wr_lst, ↓Wr_op1, ↓Wr_op2, ↓Wr_sm1, ↓Wr_slc, ↓Wr_isi, ↓Wr_and, ↓Wr_or, ↓Wr_not, ↓Wr_ife, ↓Wr_chn, ↓Wr_pop, ↓Wr_call, ↓Wr_callk, ↓Wr_comp, ↓Ws_set, ↓Ws_unp, ↓Ws_unps, ↓Ws_app, ↓Ws_seti, ↓Ws_setf, ↓Ws_expr, ↓Ws_ife, ↓Ws_for, ↓Ws_while, ↓Ws_ret, ↓Ws_retv, ↓Ws_retn, ↓Ws_brk, ↓Ws_cont, ↓Ws_pass, ↓Wss_cons, ↓Wss_nil, ↓Wes_nil, ↓Wes_cons, ↓Wo_none, ↓Wo_some, ↓Was_nil, ↓Was_ev, ↓Was_pk, ↓Wcall_def, catA_nil, catA_cons, ↓Wsrc_seq, ↓Wsrc_rng1, ↓Wsrc_rng2, ↓Wsrc_zip, ↓seq_nx, ↓seq_rt, ↓seq_bk, ↓seq_ct, ↓seq_ex, ↓W1_some, ↓WJ_some, ↓W1_none, ↓WJ_none, ↓Wf_fz, ↓Wf_lst, ↓Wf_dct, ↓Wf_obj, ↓Wb_bl, ↓Wi_int, ↓Wif_true, ↓Wif_false, ↓Wv_fz, ↓Wv_ow, ↓Wv_owd, ↓Wv_owo, ↓Wsem_ok, ↓setR_fz, ↓setR_fr, ↓Wrv_some, ↓Wpk_some, ↓Wunp_fz, ↓Wunps_lst, ↓WisL_lst, ↓Wapp_ow, ↓Wapp_io, ↓Wseti_ow, ↓Wseti_io, ↓Wretv_fz, ↓Wretv_ow, ↓Wpop_io, ↓Wpop_ow, ↓Wturn_none, ↓Wturn_some, ↓accO_some, ↓accO_none, ↓res_val, ↓res_pk, ↓slotD_0, ↓slotD_s, W1_some, WJ_some, W1_none, WJ_none, Wf_fz, Wf_lst, Wf_dct, Wf_obj, Wb_bl, Wi_int, Wif_true, Wif_false, Wv_fz, Wv_ow, Wv_owd, Wv_owo, Wsem_ok, setR_fz, setR_fr, Wrv_some, Wpk_some, Wunp_fz, Wunps_lst, WisL_lst, Wapp_ow, Wapp_io, Wseti_ow, Wseti_io, Wretv_fz, Wretv_ow, Wpop_io, Wpop_ow, accO_some, accO_none, Int.reduceLT, Int.reduceLE, Nat.reduceLT, Nat.reduceLeDiff, Int.reduceToNat, Int.reduceAdd, Int.reduceSub, Int.reduceMul, Int.reduceNeg, decide_true, decide_false, Bool.or_true, Bool.true_or, Bool.or_false, Bool.false_or, Bool.and_true, Bool.true_and, Bool.and_false, Bool.false_and, Bool.not_true, Bool.not_false, and_true, true_and, Option.map_some, Option.map_none, Option.bind_some, Option.bind_none, List.set_cons_zero, List.set_cons_succ, k1_len_str, k1_len_tup, k1_len_lst, k1_len_frl, k1_abs, k1_neg, k1_int, k1_intb, k1_tuple_lst, k1_tuple_tup, k1_list_lst, k1_list_tup, k1_rev, k1_isN, k1_notN, k2_add, k2_add_str, k2_add_lst, k2_sub, k1_isT, k1_notT, k2_mul, k2_muls, k2_fdiv, k2_mod, k2_pow6, k2_pow18, k2_pow12, k2_lt, k2_le, k2_gt, k2_ge, k2_eq, k2_ne, k2_in, k2_notin, k2_idx, idx_0, idx_1, idx_2, idx_3, idt_0, idt_1, idt_2, idt_3, k2_max, slc_str, slc_lst, slc_frl, seq_lst, seq_tup, seq_str, turnE_nx, turnE_ct, turnE_rt, turnE_bk, wipeD, backW, freeT_nil, freeT_cons, freeT1_none, freeT1_fz, freeT1_fzs, lockI, lockD_n, lockD_s, openD_n, openD_s, bindT_1, bindT_2, bindM, size_le, List.foldl_cons, List.foldl_nil, List.all_cons, List.all_nil, List.getElem?_cons_zero, List.getElem?_cons_succ, Option.join_some, Option.join_none, List.zip_cons_cons, List.zip_nil_left, List.length_cons, List.length_nil, List.length_append, Nat.reduceAdd, Nat.reduceEqDiff, Bool.false_eq_true, if_true, if_false, ↓reduceIte, ite_true, ite_false, ki_int_int, ki_int_str, ki_int_bool, ki_int_list, ki_int_tuple, ki_int_dict, ki_bl_int, ki_bl_str, ki_bl_bool, ki_bl_list, ki_bl_tuple, ki_bl_dict, ki_str_int, ki_str_str, ki_str_bool, ki_str_list, ki_str_tuple, ki_str_dict, ki_lst_int, ki_lst_str, ki_lst_bool, ki_lst_list, ki_lst_tuple, ki_lst_dict, ki_frl_int, ki_frl_str, ki_frl_bool, ki_frl_list, ki_frl_tuple, ki_frl_dict, ki_tup_int, ki_tup_str, ki_tup_bool, ki_tup_list, ki_tup_tuple, ki_tup_dict, ki_dct_int, ki_dct_str, ki_dct_bool, ki_dct_list, ki_dct_tuple, ki_dct_dict, ki_non_int, ki_non_str, ki_non_bool, ki_non_list, ki_non_tuple, ki_non_dict, kis_nil, kis_t, kis_f, Z.argsOf, Z.argOf, Z.backTo, Z.outsOf, List.any_nil, List.any_cons, inD_str]
  · simp only [↓We_var, ↓We_int, ↓We_str, ↓We_bl, ↓We_non, ↓We_gl, ↓We_dspc, ↓We_fs, ↓We_tup, ↓We_lst, ↓We_op1, ↓We_op2, ↓We_sm1, ↓We_slc, ↓We_isi, ↓We_and, ↓We_or, ↓We_one, ↓We_not, ↓We_ife, ↓We_chn, ↓We_pop, ↓We_call, ↓We_callk, ↓We_comp, ↓Wr_var, ↓Wr_int, ↓Wr_str, ↓Wr_bl, ↓Wr_non, ↓Wr_gl, ↓Wr_dspc, ↓Wr_fs, ↓Wr_tup, ↓Wr_lst, ↓Wr_op1, ↓Wr_op2, ↓Wr_sm1, ↓Wr_slc, ↓Wr_isi, ↓Wr_and, ↓Wr_or, ↓Wr_not, ↓Wr_ife, ↓Wr_chn, ↓Wr_pop, ↓Wr_call, ↓Wr_callk, ↓Wr_comp, ↓Ws_set, ↓Ws_unp, ↓Ws_unps, ↓Ws_app, ↓Ws_seti, ↓Ws_setf, ↓Ws_expr, ↓Ws_ife, ↓Ws_for, ↓Ws_while, ↓Ws_ret, ↓Ws_retv, ↓Ws_retn, ↓Ws_brk, ↓Ws_cont, ↓Ws_pass, ↓Wss_cons, ↓Wss_nil, ↓Wes_nil, ↓Wes_cons, ↓Wo_none, ↓Wo_some, ↓Was_nil, ↓Was_ev, ↓Was_pk, ↓Wcall_def, catA_nil, catA_cons, ↓Wsrc_seq, ↓Wsrc_rng1, ↓Wsrc_rng2, ↓Wsrc_zip, ↓seq_nx, ↓seq_rt, ↓seq_bk, ↓seq_ct, ↓seq_ex, ↓W1_some, ↓WJ_some, ↓W1_none, ↓WJ_none, ↓Wf_fz, ↓Wf_lst, ↓Wf_dct, ↓Wf_obj, ↓Wb_bl, ↓Wi_int, ↓Wif_true, ↓Wif_false, ↓Wv_fz, ↓Wv_ow, ↓Wv_owd, ↓Wv_owo, ↓Wsem_ok, ↓setR_fz, ↓setR_fr, ↓Wrv_some, ↓Wpk_some, ↓Wunp_fz, ↓Wunps_lst, ↓WisL_lst, ↓Wapp_ow, ↓Wapp_io, ↓Wseti_ow, ↓Wseti_io, ↓Wretv_fz, ↓Wretv_ow, ↓Wpop_io, ↓Wpop_ow, ↓Wturn_none, ↓Wturn_some, ↓accO_some, ↓accO_none, ↓res_val, ↓res_pk, ↓slotD_0, ↓slotD_s, W1_some, WJ_some, W1_none, WJ_none, Wf_fz, Wf_lst, Wf_dct, Wf_obj, Wb_bl, Wi_int, Wif_true, Wif_false, Wv_fz, Wv_ow, Wv_owd, Wv_owo, Wsem_ok, setR_fz, setR_fr, Wrv_some, Wpk_some, Wunp_fz, Wunps_lst, WisL_lst, Wapp_ow, Wapp_io, Wseti_ow, Wseti_io, Wretv_fz, Wretv_ow, Wpop_io, Wpop_ow, accO_some, accO_none, Int.reduceLT, Int.reduceLE, Nat.reduceLT, Nat.reduceLeDiff, Int.reduceToNat, Int.reduceAdd, Int.reduceSub, Int.reduceMul, Int.reduceNeg, decide_true, decide_false, Bool.or_true, Bool.true_or, Bool.or_false, Bool.false_or, Bool.and_true, Bool.true_and, Bool.and_false, Bool.false_and, Bool.not_true, Bool.not_false, and_true, true_and, Option.map_some, Option.map_none, Option.bind_some, Option.bind_none, List.set_cons_zero, List.set_cons_succ, k1_len_str, k1_len_tup, k1_len_lst, k1_len_frl, k1_abs, k1_neg, k1_int, k1_intb, k1_tuple_lst, k1_tuple_tup, k1_list_lst, k1_list_tup, k1_rev, k1_isN, k1_notN, k2_add, k2_add_str, k2_add_lst, k2_sub, k1_isT, k1_notT, k2_mul, k2_muls, k2_fdiv, k2_mod, k2_pow6, k2_pow18, k2_pow12, k2_lt, k2_le, k2_gt, k2_ge, k2_eq, k2_ne, k2_in, k2_notin, k2_idx, idx_0, idx_1, idx_2, idx_3, idt_0, idt_1, idt_2, idt_3, k2_max, slc_str, slc_lst, slc_frl, seq_lst, seq_tup, seq_str, turnE_nx, turnE_ct, turnE_rt, turnE_bk, wipeD, backW, freeT_nil, freeT_cons, freeT1_none, freeT1_fz, freeT1_fzs, lockI, lockD_n, lockD_s, openD_n, openD_s, bindT_1, bindT_2, bindM, size_le, List.foldl_cons, List.foldl_nil, List.all_cons, List.all_nil, List.getElem?_cons_zero, List.getElem?_cons_succ, Option.join_some, Option.join_none, List.zip_cons_cons, List.zip_nil_left, List.length_cons, List.length_nil, List.length_append, Nat.reduceAdd, Nat.reduceEqDiff, Bool.false_eq_true, if_true, if_false, ↓reduceIte, ite_true, ite_false, ki_int_int, ki_int_str, ki_int_bool, ki_int_list, ki_int_tuple, ki_int_dict, ki_bl_int, ki_bl_str, ki_bl_bool, ki_bl_list, ki_bl_tuple, ki_bl_dict, ki_str_int, ki_str_str, ki_str_bool, ki_str_list, ki_str_tuple, ki_str_dict, ki_lst_int, ki_lst_str, ki_lst_bool, ki_lst_list, ki_lst_tuple, ki_lst_dict, ki_frl_int, ki_frl_str, ki_frl_bool, ki_frl_list, ki_frl_tuple, ki_frl_dict, ki_tup_int, ki_tup_str, ki_tup_bool, ki_tup_list, ki_tup_tuple, ki_tup_dict, ki_dct_int, ki_dct_str, ki_dct_bool, ki_dct_list, ki_dct_tuple, ki_dct_dict, ki_non_int, ki_non_str, ki_non_bool, ki_non_list, ki_non_tuple, ki_non_dict, kis_nil, kis_t, kis_f, Z.argsOf, Z.argOf, Z.backTo, Z.outsOf, List.any_nil, List.any_cons, filterMap_some, k1_all (fun c => decide (c ∈ t))]
    rfl
/-- a number of at most m digits without leading zeros -/
def numB (s : List Nat) (m : Nat) : Bool := decide (1 ≤ s.length) && decide (s.length ≤ m) && onlyB s DIG && (decide (s = [48]) || decide (s[0]? ≠ some 48))
theorem is_number_ok {s : List Nat} {m : Nat} (hs : Ok s) : Fis_number.sem [(.fz, .str s), (.fz, .int m)] = .ok (.fz (.bl (numB s m))) [.str s, .int m] := by
  rw [Fis_number_sem]; refine runF_eq (np := 2) rfl ?_; simp only [List.map_cons, List.map_nil, List.replicate, Nat.reduceSub, List.replicate_zero, List.cons_append, List.nil_append, Bis_number, Tis_number_0_0]
  simp only [↓We_var, ↓We_int, ↓We_str, ↓We_bl, ↓We_non, ↓We_gl, ↓We_dspc, ↓We_fs, ↓We_tup, ↓We_lst, ↓We_op1, ↓We_op2, ↓We_sm1, ↓We_slc, ↓We_isi, ↓We_and, ↓We_or, ↓We_one, ↓We_not, ↓We_ife, ↓We_chn, ↓We_pop, ↓We_call, ↓We_callk, ↓We_comp, ↓Wr_var, ↓Wr_int, ↓Wr_str, ↓Wr_bl, ↓Wr_non, ↓Wr_gl, ↓Wr_dspc, ↓Wr_fs, ↓Wr_tup, ↓Wr_lst, ↓Wr_op1, ↓Wr_op2, ↓Wr_sm1, ↓Wr_slc, ↓Wr_isi, ↓Wr_and, ↓Wr_or, ↓Wr_not, ↓Wr_ife, ↓Wr_chn, ↓Wr_pop, ↓Wr_call, ↓Wr_callk, ↓Wr_comp, ↓Ws_set, ↓Ws_unp, ↓Ws_unps, ↓Ws_app, ↓Ws_seti, ↓Ws_setf, ↓Ws_expr, ↓Ws_ife, ↓Ws_for, ↓Ws_while, ↓Ws_ret, ↓Ws_retv, ↓Ws_retn, ↓Ws_brk, ↓Ws_cont, ↓Ws_pass, ↓Wss_cons, ↓Wss_nil, ↓Wes_nil, ↓Wes_cons, ↓Wo_none, ↓Wo_some, ↓Was_nil, ↓Was_ev, ↓Was_pk, ↓Wcall_def, catA_nil, catA_cons, ↓Wsrc_seq, ↓Wsrc_rng1, ↓Wsrc_rng2, ↓Wsrc_zip, ↓seq_nx, ↓seq_rt, ↓seq_bk, ↓seq_ct, ↓seq_ex, ↓W1_some, ↓WJ_some, ↓W1_none, ↓WJ_none, ↓Wf_fz, ↓Wf_lst, ↓Wf_dct, ↓Wf_obj, ↓Wb_bl, ↓Wi_int, ↓Wif_true, ↓Wif_false, ↓Wv_fz, ↓Wv_ow, ↓Wv_owd, ↓Wv_owo, ↓Wsem_ok, ↓setR_fz, ↓setR_fr, ↓Wrv_some, ↓Wpk_some, ↓Wunp_fz, ↓Wunps_lst, ↓WisL_lst, ↓Wapp_ow, ↓Wapp_io, ↓Wseti_ow, ↓Wseti_io, ↓Wretv_fz, ↓Wretv_ow, ↓Wpop_io, ↓Wpop_ow, ↓Wturn_none, ↓Wturn_some, ↓accO_some, ↓accO_none, ↓res_val, ↓res_pk, ↓slotD_0, ↓slotD_s, W1_some, WJ_some, W1_none, WJ_none, Wf_fz, Wf_lst, Wf_dct, Wf_obj, Wb_bl, Wi_int, Wif_true, Wif_false, Wv_fz, Wv_ow, Wv_owd, Wv_owo, Wsem_ok, setR_fz, setR_fr, Wrv_some, Wpk_some, Wunp_fz, Wunps_lst, WisL_lst, Wapp_ow, Wapp_io, Wseti_ow, Wseti_io, Wretv_fz, Wretv_ow, Wpop_io, Wpop_ow, accO_some, accO_none, Int.reduceLT, Int.reduceLE, Nat.reduceLT, Nat.reduceLeDiff, Int.reduceToNat, Int.reduceAdd, Int.reduceSub, Int.reduceMul, Int.reduceNeg, decide_true, decide_false, Bool.or_true, Bool.true_or, Bool.or_false, Bool.false_or, Bool.and_true, Bool.true_and, Bool.and_false, Bool.false_and, Bool.not_true, Bool.not_false, and_true, true_and, Option.map_some, Option.map_none, Option.bind_some, Option.bind_none, List.set_cons_zero, List.set_cons_succ, k1_len_str, k1_len_tup, k1_len_lst, k1_len_frl, k1_abs, k1_neg, k1_int, k1_intb, k1_tuple_lst, k1_tuple_tup, k1_list_lst, k1_list_tup, k1_rev, k1_isN, k1_notN, k2_add, k2_add_str, k2_add_lst, k2_sub, k1_isT, k1_notT, k2_mul, k2_muls, k2_fdiv, k2_mod, k2_pow6, k2_pow18, k2_pow12, k2_lt, k2_le, k2_gt, k2_ge, k2_eq, k2_ne, k2_in, k2_notin, k2_idx, idx_0, idx_1, idx_2, idx_3, idt_0, idt_1, idt_2, idt_3, k2_max, slc_str, slc_lst, slc_frl, seq_lst, seq_tup, seq_str, turnE_nx, turnE_ct, turnE_rt, turnE_bk, wipeD, backW, freeT_nil, freeT_cons, freeT1_none, freeT1_fz, freeT1_fzs, lockI, lockD_n, lockD_s, openD_n, openD_s, bindT_1, bindT_2, bindM, size_le, List.foldl_cons, List.foldl_nil, List.all_cons, List.all_nil, List.getElem?_cons_zero, List.getElem?_cons_succ, Option.join_some, Option.join_none, List.zip_cons_cons, List.zip_nil_left, List.length_cons, List.length_nil, List.length_append, Nat.reduceAdd, Nat.reduceEqDiff, Bool.false_eq_true, if_true, if_false, ↓reduceIte, ite_true, ite_false, ki_int_int, ki_int_str, ki_int_bool, ki_int_list, ki_int_tuple, ki_int_dict, ki_bl_int, ki_bl_str, ki_bl_bool, ki_bl_list, ki_bl_tuple, ki_bl_dict, ki_str_int, ki_str_str, ki_str_bool, ki_str_list, ki_str_tuple, ki_str_dict, ki_lst_int, ki_lst_str, ki_lst_bool, ki_lst_list, ki_lst_tuple, ki_lst_dict, ki_frl_int, ki_frl_str, ki_frl_bool, ki_frl_list, ki_frl_tuple, ki_frl_dict, ki_tup_int, ki_tup_str, ki_tup_bool, ki_tup_list, ki_tup_tuple, ki_tup_dict, ki_dct_int, ki_dct_str, ki_dct_bool, ki_dct_list, ki_dct_tuple, ki_dct_dict, ki_non_int, ki_non_str, ki_non_bool, ki_non_list, ki_non_tuple, ki_non_dict, kis_nil, kis_t, kis_f, Z.argsOf, Z.argOf, Z.backTo, Z.outsOf, List.any_nil, List.any_cons, hs.size, has_only_ok hs, Tis_number_1_0]
  refine ⟨fun h1 => ?_, fun h1 => ?_⟩
  · have h1 : 1 ≤ s.length := by have := of_decide_eq_true h1; omega
    refine ⟨fun h2 => ?_, fun h2 => ?_⟩
    · have h2 : ¬ s.length ≤ m := by simp at h2; omega
      simp [numB, h2]
    · have h2 : s.length ≤ m := by simp at h2; omega
      refine ⟨fun h3 => ?_, fun h3 => ?_⟩
      · have h3 : onlyB s DIG = false := by simpa using h3
        simp [numB, h3]
      · have h3 : onlyB s DIG = true := by simpa using h3
        cases s with
        | nil => simp at h1
        | cons c s =>
          have hc : c < 1114112 := hs.1 c List.mem_cons_self
          simp only [↓We_var, ↓We_int, ↓We_str, ↓We_bl, ↓We_non, ↓We_gl, ↓We_dspc, ↓We_fs, ↓We_tup, ↓We_lst, ↓We_op1, ↓We_op2, ↓We_sm1, ↓We_slc, ↓We_isi, ↓We_and, ↓We_or, ↓We_one, ↓We_not, ↓We_ife, ↓We_chn, ↓We_pop, ↓We_call, ↓We_callk, ↓We_comp, ↓Wr_var, ↓Wr_int, ↓Wr_str, ↓Wr_bl, ↓Wr_non, ↓Wr_gl, ↓Wr_dspc, ↓Wr_fs, ↓Wr_tup, ↓Wr_lst, ↓Wr_op1, ↓Wr_op2, ↓Wr_sm1, ↓Wr_slc, ↓Wr_isi, ↓Wr_and, ↓Wr_or, ↓Wr_not, ↓Wr_ife, ↓Wr_chn, ↓Wr_pop, ↓Wr_call, ↓Wr_callk, ↓Wr_comp, ↓Ws_set, ↓Ws_unp, ↓Ws_unps, ↓Ws_app, ↓Ws_seti, ↓Ws_setf, ↓Ws_expr, ↓Ws_ife, ↓Ws_for, ↓Ws_while, ↓Ws_ret, ↓Ws_retv, ↓Ws_retn, ↓Ws_brk, ↓Ws_cont, ↓Ws_pass, ↓Wss_cons, ↓Wss_nil, ↓Wes_nil, ↓Wes_cons, ↓Wo_none, ↓Wo_some, ↓Was_nil, ↓Was_ev, ↓Was_pk, ↓Wcall_def, catA_nil, catA_cons, ↓Wsrc_seq, ↓Wsrc_rng1, ↓Wsrc_rng2, ↓Wsrc_zip, ↓seq_nx, ↓seq_rt, ↓seq_bk, ↓seq_ct, ↓seq_ex, ↓W1_some, ↓WJ_some, ↓W1_none, ↓WJ_none, ↓Wf_fz, ↓Wf_lst, ↓Wf_dct, ↓Wf_obj, ↓Wb_bl, ↓Wi_int, ↓Wif_true, ↓Wif_false, ↓Wv_fz, ↓Wv_ow, ↓Wv_owd, ↓Wv_owo, ↓Wsem_ok, ↓setR_fz, ↓setR_fr, ↓Wrv_some, ↓Wpk_some, ↓Wunp_fz, ↓Wunps_lst, ↓WisL_lst, ↓Wapp_ow, ↓Wapp_io, ↓Wseti_ow, ↓Wseti_io, ↓Wretv_fz, ↓Wretv_ow, ↓Wpop_io, ↓Wpop_ow, ↓Wturn_none, ↓Wturn_some, ↓accO_some, ↓accO_none, ↓res_val, ↓res_pk, ↓slotD_0, ↓slotD_s, W1_some, WJ_some, W1_none, WJ_none, Wf_fz, Wf_lst, Wf_dct, Wf_obj, Wb_bl, Wi_int, Wif_true, Wif_false, Wv_fz, Wv_ow, Wv_owd, Wv_owo, Wsem_ok, setR_fz, setR_fr, Wrv_some, Wpk_some, Wunp_fz, Wunps_lst, WisL_lst, Wapp_ow, Wapp_io, Wseti_ow, Wseti_io, Wretv_fz, Wretv_ow, Wpop_io, Wpop_ow, accO_some, accO_none, Int.reduceLT, Int.reduceLE, Nat.reduceLT, Nat.reduceLeDiff, Int.reduceToNat, Int.reduceAdd, Int.reduceSub, Int.reduceMul, Int.reduceNeg, decide_true, decide_false, Bool.or_true, Bool.true_or, Bool.or_false, Bool.false_or, Bool.and_true, Bool.true_and, Bool.and_false, Bool.false_and, Bool.not_true, Bool.not_false, and_true, true_and, Option.map_some, Option.map_none, Option.bind_some, Option.bind_none, List.set_cons_zero, List.set_cons_succ, k1_len_str, k1_len_tup, k1_len_lst, k1_len_frl, k1_abs, k1_neg, k1_int, k1_intb, k1_tuple_lst, k1_tuple_tup, k1_list_lst, k1_list_tup, k1_rev, k1_isN, k1_notN, k2_add, k2_add_str, k2_add_lst, k2_sub, k1_isT, k1_notT, k2_mul, k2_muls, k2_fdiv, k2_mod, k2_pow6, k2_pow18, k2_pow12, k2_lt, k2_le, k2_gt, k2_ge, k2_eq, k2_ne, k2_in, k2_notin, k2_idx, idx_0, idx_1, idx_2, idx_3, idt_0, idt_1, idt_2, idt_3, k2_max, slc_str, slc_lst, slc_frl, seq_lst, seq_tup, seq_str, turnE_nx, turnE_ct, turnE_rt, turnE_bk, wipeD, backW, freeT_nil, freeT_cons, freeT1_none, freeT1_fz, freeT1_fzs, lockI, lockD_n, lockD_s, openD_n, openD_s, bindT_1, bindT_2, bindM, size_le, List.foldl_cons, List.foldl_nil, List.all_cons, List.all_nil, List.getElem?_cons_zero, List.getElem?_cons_succ, Option.join_some, Option.join_none, List.zip_cons_cons, List.zip_nil_left, List.length_cons, List.length_nil, List.length_append, Nat.reduceAdd, Nat.reduceEqDiff, Bool.false_eq_true, if_true, if_false, ↓reduceIte, ite_true, ite_false, ki_int_int, ki_int_str, ki_int_bool, ki_int_list, ki_int_tuple, ki_int_dict, ki_bl_int, ki_bl_str, ki_bl_bool, ki_bl_list, ki_bl_tuple, ki_bl_dict, ki_str_int, ki_str_str, ki_str_bool, ki_str_list, ki_str_tuple, ki_str_dict, ki_lst_int, ki_lst_str, ki_lst_bool, ki_lst_list, ki_lst_tuple, ki_lst_dict, ki_frl_int, ki_frl_str, ki_frl_bool, ki_frl_list, ki_frl_tuple, ki_frl_dict, ki_tup_int, ki_tup_str, ki_tup_bool, ki_tup_list, ki_tup_tuple, ki_tup_dict, ki_dct_int, ki_dct_str, ki_dct_bool, ki_dct_list, ki_dct_tuple, ki_dct_dict, ki_non_int, ki_non_str, ki_non_bool, ki_non_list, ki_non_tuple, ki_non_dict, kis_nil, kis_t, kis_f, Z.argsOf, Z.argOf, Z.backTo, Z.outsOf, List.any_nil, List.any_cons, Tis_number_0_1, eqD_str hs.1 (show ∀ c ∈ [48], c < 1114112 by simp), str_0 hs.size, eqD_str (s := [c]) (t := [48]) (by simpa using hc) (by simp)]
          refine ⟨fun h4 => ?_, fun h4 => ?_⟩
          · have h4 := of_decide_eq_true h4
            rw [numB, decide_eq_true h1, decide_eq_true h2, h3, decide_eq_true h4]
            rfl
          · have h4 := of_decide_eq_false h4
            rw [numB, decide_eq_true h1, decide_eq_true h2, h3, decide_eq_false h4]
            simp
  · have h1 : ¬ 1 ≤ s.length := by have := of_decide_eq_false h1; omega
    simp [numB, h1]
theorem is_number_4 {s : List Nat} (hs : Ok s) : Fis_number.sem [(.fz, .str s), (.fz, .int 4)] = .ok (.fz (.bl (numB s 4))) [.str s, .int 4] := is_number_ok (m := 4) hs
theorem is_number_12 {s : List Nat} (hs : Ok s) : Fis_number.sem [(.fz, .str s), (.fz, .int 12)] = .ok (.fz (.bl (numB s 12))) [.str s, .int 12] := is_number_ok (m := 12) hs
/-- a constant, among what has no class of its own -/
def constB : D → Bool
  | .int i => decide (0 ≤ i) && decide (i ≤ 999999999999)
  | _ => false
def plain : D → Bool
  | .obj _ _ => false
  | _ => true
theorem is_constant_ok {d : D} (h : plain d = true) : Fis_constant.sem [(.fz, d)] = .ok (.fz (.bl (constB d))) [d] := by
  rw [Fis_constant_sem]; refine runF_eq (np := 1) rfl ?_; simp only [List.map_cons, List.map_nil, List.replicate, Nat.reduceSub, List.replicate_zero, List.cons_append, List.nil_append, Bis_constant, Tis_constant_0_0]
  cases d <;> first | cases h | skip
  · simp only [↓We_var, ↓We_int, ↓We_str, ↓We_bl, ↓We_non, ↓We_gl, ↓We_dspc, ↓We_fs, ↓We_tup, ↓We_lst, ↓We_op1, ↓We_op2, ↓We_sm1, ↓We_slc, ↓We_isi, ↓We_and, ↓We_or, ↓We_one, ↓We_not, ↓We_ife, ↓We_chn, ↓We_pop, ↓We_call, ↓We_callk, ↓We_comp, ↓Wr_var, ↓Wr_int, ↓Wr_str, ↓Wr_bl, ↓Wr_non, ↓Wr_gl, ↓Wr_dspc, ↓Wr_fs, ↓Wr_tup, ↓Wr_lst, ↓Wr_op1, ↓Wr_op2, ↓Wr_sm1, ↓Wr_slc, ↓Wr_isi, ↓Wr_and, ↓Wr_or, ↓Wr_not, ↓Wr_ife, ↓Wr_chn, ↓Wr_pop, ↓Wr_call, ↓Wr_callk, ↓Wr_comp, ↓Ws_set, ↓Ws_unp, ↓Ws_unps, ↓Ws_app, ↓Ws_seti, ↓Ws_setf, ↓Ws_expr, ↓Ws_ife, ↓Ws_for, ↓Ws_while, ↓Ws_ret, ↓Ws_retv, ↓Ws_retn, ↓Ws_brk, ↓Ws_cont, ↓Ws_pass, ↓Wss_cons, ↓Wss_nil, ↓Wes_nil, ↓Wes_cons, ↓Wo_none, ↓Wo_some, ↓Was_nil, ↓Was_ev, ↓Was_pk, ↓Wcall_def, catA_nil, catA_cons, ↓Wsrc_seq, ↓Wsrc_rng1, ↓Wsrc_rng2, ↓Wsrc_zip, ↓seq_nx, ↓seq_rt, ↓seq_bk, ↓seq_ct, ↓seq_ex, ↓W1_some, ↓WJ_some, ↓W1_none, ↓WJ_none, ↓Wf_fz, ↓Wf_lst, ↓Wf_dct, ↓Wf_obj, ↓Wb_bl, ↓Wi_int, ↓Wif_true, ↓Wif_false, ↓Wv_fz, ↓Wv_ow, ↓Wv_owd, ↓Wv_owo, ↓Wsem_ok, ↓setR_fz, ↓setR_fr, ↓Wrv_some, ↓Wpk_some, ↓Wunp_fz, ↓Wunps_lst, ↓WisL_lst, ↓Wapp_ow, ↓Wapp_io, ↓Wseti_ow, ↓Wseti_io, ↓Wretv_fz, ↓Wretv_ow, ↓Wpop_io, ↓Wpop_ow, ↓Wturn_none, ↓Wturn_some, ↓accO_some, ↓accO_none, ↓res_val, ↓res_pk, ↓slotD_0, ↓slotD_s, W1_some, WJ_some, W1_none, WJ_none, Wf_fz, Wf_lst, Wf_dct, Wf_obj, Wb_bl, Wi_int, Wif_true, Wif_false, Wv_fz, Wv_ow, Wv_owd, Wv_owo, Wsem_ok, setR_fz, setR_fr, Wrv_some, Wpk_some, Wunp_fz, Wunps_lst, WisL_lst, Wapp_ow, Wapp_io, Wseti_ow, Wseti_io, Wretv_fz, Wretv_ow, Wpop_io, Wpop_ow, accO_some, accO_none, Int.reduceLT, Int.reduceLE, Nat.reduceLT, Nat.reduceLeDiff, Int.reduceToNat, Int.reduceAdd, Int.reduceSub, Int.reduceMul, Int.reduceNeg, decide_true, decide_false, Bool.or_true, Bool.true_or, Bool.or_false, Bool.false_or, Bool.and_true, Bool.true_and, Bool.and_false, Bool.false_and, Bool.not_true, Bool.not_false, and_true, true_and, Option.map_some, Option.map_none, Option.bind_some, Option.bind_none, List.set_cons_zero, List.set_cons_succ, k1_len_str, k1_len_tup, k1_len_lst, k1_len_frl, k1_abs, k1_neg, k1_int, k1_intb, k1_tuple_lst, k1_tuple_tup, k1_list_lst, k1_list_tup, k1_rev, k1_isN, k1_notN, k2_add, k2_add_str, k2_add_lst, k2_sub, k1_isT, k1_notT, k2_mul, k2_muls, k2_fdiv, k2_mod, k2_pow6, k2_pow18, k2_pow12, k2_lt, k2_le, k2_gt, k2_ge, k2_eq, k2_ne, k2_in, k2_notin, k2_idx, idx_0, idx_1, idx_2, idx_3, idt_0, idt_1, idt_2, idt_3, k2_max, slc_str, slc_lst, slc_frl, seq_lst, seq_tup, seq_str, turnE_nx, turnE_ct, turnE_rt, turnE_bk, wipeD, backW, freeT_nil, freeT_cons, freeT1_none, freeT1_fz, freeT1_fzs, lockI, lockD_n, lockD_s, openD_n, openD_s, bindT_1, bindT_2, bindM, size_le, List.foldl_cons, List.foldl_nil, List.all_cons, List.all_nil, List.getElem?_cons_zero, List.getElem?_cons_succ, Option.join_some, Option.join_none, List.zip_cons_cons, List.zip_nil_left, List.length_cons, List.length_nil, List.length_append, Nat.reduceAdd, Nat.reduceEqDiff, Bool.false_eq_true, if_true, if_false, ↓reduceIte, ite_true, ite_false, ki_int_int, ki_int_str, ki_int_bool, ki_int_list, ki_int_tuple, ki_int_dict, ki_bl_int, ki_bl_str, ki_bl_bool, ki_bl_list, ki_bl_tuple, ki_bl_dict, ki_str_int, ki_str_str, ki_str_bool, ki_str_list, ki_str_tuple, ki_str_dict, ki_lst_int, ki_lst_str, ki_lst_bool, ki_lst_list, ki_lst_tuple, ki_lst_dict, ki_frl_int, ki_frl_str, ki_frl_bool, ki_frl_list, ki_frl_tuple, ki_frl_dict, ki_tup_int, ki_tup_str, ki_tup_bool, ki_tup_list, ki_tup_tuple, ki_tup_dict, ki_dct_int, ki_dct_str, ki_dct_bool, ki_dct_list, ki_dct_tuple, ki_dct_dict, ki_non_int, ki_non_str, ki_non_bool, ki_non_list, ki_non_tuple, ki_non_dict, kis_nil, kis_t, kis_f, Z.argsOf, Z.argOf, Z.backTo, Z.outsOf, List.any_nil, List.any_cons, Tis_constant_1_0, constB]
  · simp only [↓We_var, ↓We_int, ↓We_str, ↓We_bl, ↓We_non, ↓We_gl, ↓We_dspc, ↓We_fs, ↓We_tup, ↓We_lst, ↓We_op1, ↓We_op2, ↓We_sm1, ↓We_slc, ↓We_isi, ↓We_and, ↓We_or, ↓We_one, ↓We_not, ↓We_ife, ↓We_chn, ↓We_pop, ↓We_call, ↓We_callk, ↓We_comp, ↓Wr_var, ↓Wr_int, ↓Wr_str, ↓Wr_bl, ↓Wr_non, ↓Wr_gl, ↓Wr_dspc, ↓Wr_fs, ↓Wr_tup, ↓Wr_lst, ↓Wr_op1, ↓Wr_op2, ↓Wr_sm1, ↓Wr_slc, ↓Wr_isi, ↓Wr_and, ↓Wr_or, ↓Wr_not, ↓Wr_ife, ↓Wr_chn, ↓Wr_pop, ↓Wr_call, ↓Wr_callk, ↓Wr_comp, ↓Ws_set, ↓Ws_unp, ↓Ws_unps, ↓Ws_app, ↓Ws_seti, ↓Ws_setf, ↓Ws_expr, ↓Ws_ife, ↓Ws_for, ↓Ws_while, ↓Ws_ret, ↓Ws_retv, ↓Ws_retn, ↓Ws_brk, ↓Ws_cont, ↓Ws_pass, ↓Wss_cons, ↓Wss_nil, ↓Wes_nil, ↓Wes_cons, ↓Wo_none, ↓Wo_some, ↓Was_nil, ↓Was_ev, ↓Was_pk, ↓Wcall_def, catA_nil, catA_cons, ↓Wsrc_seq, ↓Wsrc_rng1, ↓Wsrc_rng2, ↓Wsrc_zip, ↓seq_nx, ↓seq_rt, ↓seq_bk, ↓seq_ct, ↓seq_ex, ↓W1_some, ↓WJ_some, ↓W1_none, ↓WJ_none, ↓Wf_fz, ↓Wf_lst, ↓Wf_dct, ↓Wf_obj, ↓Wb_bl, ↓Wi_int, ↓Wif_true, ↓Wif_false, ↓Wv_fz, ↓Wv_ow, ↓Wv_owd, ↓Wv_owo, ↓Wsem_ok, ↓setR_fz, ↓setR_fr, ↓Wrv_some, ↓Wpk_some, ↓Wunp_fz, ↓Wunps_lst, ↓WisL_lst, ↓Wapp_ow, ↓Wapp_io, ↓Wseti_ow, ↓Wseti_io, ↓Wretv_fz, ↓Wretv_ow, ↓Wpop_io, ↓Wpop_ow, ↓Wturn_none, ↓Wturn_some, ↓accO_some, ↓accO_none, ↓res_val, ↓res_pk, ↓slotD_0, ↓slotD_s, W1_some, WJ_some, W1_none, WJ_none, Wf_fz, Wf_lst, Wf_dct, Wf_obj, Wb_bl, Wi_int, Wif_true, Wif_false, Wv_fz, Wv_ow, Wv_owd, Wv_owo, Wsem_ok, setR_fz, setR_fr, Wrv_some, Wpk_some, Wunp_fz, Wunps_lst, WisL_lst, Wapp_ow, Wapp_io, Wseti_ow, Wseti_io, Wretv_fz, Wretv_ow, Wpop_io, Wpop_ow, accO_some, accO_none, Int.reduceLT, Int.reduceLE, Nat.reduceLT, Nat.reduceLeDiff, Int.reduceToNat, Int.reduceAdd, Int.reduceSub, Int.reduceMul, Int.reduceNeg, decide_true, decide_false, Bool.or_true, Bool.true_or, Bool.or_false, Bool.false_or, Bool.and_true, Bool.true_and, Bool.and_false, Bool.false_and, Bool.not_true, Bool.not_false, and_true, true_and, Option.map_some, Option.map_none, Option.bind_some, Option.bind_none, List.set_cons_zero, List.set_cons_succ, k1_len_str, k1_len_tup, k1_len_lst, k1_len_frl, k1_abs, k1_neg, k1_int, k1_intb, k1_tuple_lst, k1_tuple_tup, k1_list_lst, k1_list_tup, k1_rev, k1_isN, k1_notN, k2_add, k2_add_str, k2_add_lst, k2_sub, k1_isT, k1_notT, k2_mul, k2_muls, k2_fdiv, k2_mod, k2_pow6, k2_pow18, k2_pow12, k2_lt, k2_le, k2_gt, k2_ge, k2_eq, k2_ne, k2_in, k2_notin, k2_idx, idx_0, idx_1, idx_2, idx_3, idt_0, idt_1, idt_2, idt_3, k2_max, slc_str, slc_lst, slc_frl, seq_lst, seq_tup, seq_str, turnE_nx, turnE_ct, turnE_rt, turnE_bk, wipeD, backW, freeT_nil, freeT_cons, freeT1_none, freeT1_fz, freeT1_fzs, lockI, lockD_n, lockD_s, openD_n, openD_s, bindT_1, bindT_2, bindM, size_le, List.foldl_cons, List.foldl_nil, List.all_cons, List.all_nil, List.getElem?_cons_zero, List.getElem?_cons_succ, Option.join_some, Option.join_none, List.zip_cons_cons, List.zip_nil_left, List.length_cons, List.length_nil, List.length_append, Nat.reduceAdd, Nat.reduceEqDiff, Bool.false_eq_true, if_true, if_false, ↓reduceIte, ite_true, ite_false, ki_int_int, ki_int_str, ki_int_bool, ki_int_list, ki_int_tuple, ki_int_dict, ki_bl_int, ki_bl_str, ki_bl_bool, ki_bl_list, ki_bl_tuple, ki_bl_dict, ki_str_int, ki_str_str, ki_str_bool, ki_str_list, ki_str_tuple, ki_str_dict, ki_lst_int, ki_lst_str, ki_lst_bool, ki_lst_list, ki_lst_tuple, ki_lst_dict, ki_frl_int, ki_frl_str, ki_frl_bool, ki_frl_list, ki_frl_tuple, ki_frl_dict, ki_tup_int, ki_tup_str, ki_tup_bool, ki_tup_list, ki_tup_tuple, ki_tup_dict, ki_dct_int, ki_dct_str, ki_dct_bool, ki_dct_list, ki_dct_tuple, ki_dct_dict, ki_non_int, ki_non_str, ki_non_bool, ki_non_list, ki_non_tuple, ki_non_dict, kis_nil, kis_t, kis_f, Z.argsOf, Z.argOf, Z.backTo, Z.outsOf, List.any_nil, List.any_cons, Tis_constant_1_0, constB]
  · rename_i i
    simp only [↓We_var, ↓We_int, ↓We_str, ↓We_bl, ↓We_non, ↓We_gl, ↓We_dspc, ↓We_fs, ↓We_tup, ↓We_lst, ↓We_op1, ↓We_op2, ↓We_sm1, ↓We_slc, ↓We_isi, ↓We_and, ↓We_or, ↓We_one, ↓We_not, ↓We_ife, ↓We_chn, ↓We_pop, ↓We_call, ↓We_callk, ↓We_comp, ↓Wr_var, ↓Wr_int, ↓Wr_str, ↓Wr_bl, ↓Wr_non, ↓Wr_gl, ↓Wr_dspc, ↓Wr_fs, ↓Wr_tup, ↓Wr_lst, ↓Wr_op1, ↓Wr_op2, ↓Wr_sm1, ↓Wr_slc, ↓Wr_isi, ↓Wr_and, ↓Wr_or, ↓Wr_not, ↓Wr_ife, ↓Wr_chn, ↓Wr_pop, ↓Wr_call, ↓Wr_callk, ↓Wr_comp, ↓Ws_set, ↓Ws_unp, ↓Ws_unps, ↓Ws_app, ↓Ws_seti, ↓Ws_setf, ↓Ws_expr, ↓Ws_ife, ↓Ws_for, ↓Ws_while, ↓Ws_ret, ↓Ws_retv, ↓Ws_retn, ↓Ws_brk, ↓Ws_cont, ↓Ws_pass, ↓Wss_cons, ↓Wss_nil, ↓Wes_nil, ↓Wes_cons, ↓Wo_none, ↓Wo_some, ↓Was_nil, ↓Was_ev, ↓Was_pk, ↓Wcall_def, catA_nil, catA_cons, ↓Wsrc_seq, ↓Wsrc_rng1, ↓Wsrc_rng2, ↓Wsrc_zip, ↓seq_nx, ↓seq_rt, ↓seq_bk, ↓seq_ct, ↓seq_ex, ↓W1_some, ↓WJ_some, ↓W1_none, ↓WJ_none, ↓Wf_fz, ↓Wf_lst, ↓Wf_dct, ↓Wf_obj, ↓Wb_bl, ↓Wi_int, ↓Wif_true, ↓Wif_false, ↓Wv_fz, ↓Wv_ow, ↓Wv_owd, ↓Wv_owo, ↓Wsem_ok, ↓setR_fz, ↓setR_fr, ↓Wrv_some, ↓Wpk_some, ↓Wunp_fz, ↓Wunps_lst, ↓WisL_lst, ↓Wapp_ow, ↓Wapp_io, ↓Wseti_ow, ↓Wseti_io, ↓Wretv_fz, ↓Wretv_ow, ↓Wpop_io, ↓Wpop_ow, ↓Wturn_none, ↓Wturn_some, ↓accO_some, ↓accO_none, ↓res_val, ↓res_pk, ↓slotD_0, ↓slotD_s, W1_some, WJ_some, W1_none, WJ_none, Wf_fz, Wf_lst, Wf_dct, Wf_obj, Wb_bl, Wi_int, Wif_true, Wif_false, Wv_fz, Wv_ow, Wv_owd, Wv_owo, Wsem_ok, setR_fz, setR_fr, Wrv_some, Wpk_some, Wunp_fz, Wunps_lst, WisL_lst, Wapp_ow, Wapp_io, Wseti_ow, Wseti_io, Wretv_fz, Wretv_ow, Wpop_io, Wpop_ow, accO_some, accO_none, Int.reduceLT, Int.reduceLE, Nat.reduceLT, Nat.reduceLeDiff, Int.reduceToNat, Int.reduceAdd, Int.reduceSub, Int.reduceMul, Int.reduceNeg, decide_true, decide_false, Bool.or_true, Bool.true_or, Bool.or_false, Bool.false_or, Bool.and_true, Bool.true_and, Bool.and_false, Bool.false_and, Bool.not_true, Bool.not_false, and_true, true_and, Option.map_some, Option.map_none, Option.bind_some, Option.bind_none, List.set_cons_zero, List.set_cons_succ, k1_len_str, k1_len_tup, k1_len_lst, k1_len_frl, k1_abs, k1_neg, k1_int, k1_intb, k1_tuple_lst, k1_tuple_tup, k1_list_lst, k1_list_tup, k1_rev, k1_isN, k1_notN, k2_add, k2_add_str, k2_add_lst, k2_sub, k1_isT, k1_notT, k2_mul, k2_muls, k2_fdiv, k2_mod, k2_pow6, k2_pow18, k2_pow12, k2_lt, k2_le, k2_gt, k2_ge, k2_eq, k2_ne, k2_in, k2_notin, k2_idx, idx_0, idx_1, idx_2, idx_3, idt_0, idt_1, idt_2, idt_3, k2_max, slc_str, slc_lst, slc_frl, seq_lst, seq_tup, seq_str, turnE_nx, turnE_ct, turnE_rt, turnE_bk, wipeD, backW, freeT_nil, freeT_cons, freeT1_none, freeT1_fz, freeT1_fzs, lockI, lockD_n, lockD_s, openD_n, openD_s, bindT_1, bindT_2, bindM, size_le, List.foldl_cons, List.foldl_nil, List.all_cons, List.all_nil, List.getElem?_cons_zero, List.getElem?_cons_succ, Option.join_some, Option.join_none, List.zip_cons_cons, List.zip_nil_left, List.length_cons, List.length_nil, List.length_append, Nat.reduceAdd, Nat.reduceEqDiff, Bool.false_eq_true, if_true, if_false, ↓reduceIte, ite_true, ite_false, ki_int_int, ki_int_str, ki_int_bool, ki_int_list, ki_int_tuple, ki_int_dict, ki_bl_int, ki_bl_str, ki_bl_bool, ki_bl_list, ki_bl_tuple, ki_bl_dict, ki_str_int, ki_str_str, ki_str_bool, ki_str_list, ki_str_tuple, ki_str_dict, ki_lst_int, ki_lst_str, ki_lst_bool, ki_lst_list, ki_lst_tuple, ki_lst_dict, ki_frl_int, ki_frl_str, ki_frl_bool, ki_frl_list, ki_frl_tuple, ki_frl_dict, ki_tup_int, ki_tup_str, ki_tup_bool, ki_tup_list, ki_tup_tuple, ki_tup_dict, ki_dct_int, ki_dct_str, ki_dct_bool, ki_dct_list, ki_dct_tuple, ki_dct_dict, ki_non_int, ki_non_str, ki_non_bool, ki_non_list, ki_non_tuple, ki_non_dict, kis_nil, kis_t, kis_f, Z.argsOf, Z.argOf, Z.backTo, Z.outsOf, List.any_nil, List.any_cons, Tis_constant_0_1]
    refine ⟨fun h1 => ?_, fun h1 => ?_⟩
    · simp [constB, h1]
    · simp [constB, h1]
  · simp only [↓We_var, ↓We_int, ↓We_str, ↓We_bl, ↓We_non, ↓We_gl, ↓We_dspc, ↓We_fs, ↓We_tup, ↓We_lst, ↓We_op1, ↓We_op2, ↓We_sm1, ↓We_slc, ↓We_isi, ↓We_and, ↓We_or, ↓We_one, ↓We_not, ↓We_ife, ↓We_chn, ↓We_pop, ↓We_call, ↓We_callk, ↓We_comp, ↓Wr_var, ↓Wr_int, ↓Wr_str, ↓Wr_bl, ↓Wr_non, ↓Wr_gl, ↓Wr_dspc, ↓Wr_fs, ↓Wr_tup, ↓Wr_lst, ↓Wr_op1, ↓Wr_op2, ↓Wr_sm1, ↓Wr_slc, ↓Wr_isi, ↓Wr_and, ↓Wr_or, ↓Wr_not, ↓Wr_ife, ↓Wr_chn, ↓Wr_pop, ↓Wr_call, ↓Wr_callk, ↓Wr_comp, ↓Ws_set, ↓Ws_unp, ↓Ws_unps, ↓Ws_app, ↓Ws_seti, ↓Ws_setf, ↓Ws_expr, ↓Ws_ife, ↓Ws_for, ↓Ws_while, ↓Ws_ret, ↓Ws_retv, ↓Ws_retn, ↓Ws_brk, ↓Ws_cont, ↓Ws_pass, ↓Wss_cons, ↓Wss_nil, ↓Wes_nil, ↓Wes_cons, ↓Wo_none, ↓Wo_some, ↓Was_nil, ↓Was_ev, ↓Was_pk, ↓Wcall_def, catA_nil, catA_cons, ↓Wsrc_seq, ↓Wsrc_rng1, ↓Wsrc_rng2, ↓Wsrc_zip, ↓seq_nx, ↓seq_rt, ↓seq_bk, ↓seq_ct, ↓seq_ex, ↓W1_some, ↓WJ_some, ↓W1_none, ↓WJ_none, ↓Wf_fz, ↓Wf_lst, ↓Wf_dct, ↓Wf_obj, ↓Wb_bl, ↓Wi_int, ↓Wif_true, ↓Wif_false, ↓Wv_fz, ↓Wv_ow, ↓Wv_owd, ↓Wv_owo, ↓Wsem_ok, ↓setR_fz, ↓setR_fr, ↓Wrv_some, ↓Wpk_some, ↓Wunp_fz, ↓Wunps_lst, ↓WisL_lst, ↓Wapp_ow, ↓Wapp_io, ↓Wseti_ow, ↓Wseti_io, ↓Wretv_fz, ↓Wretv_ow, ↓Wpop_io, ↓Wpop_ow, ↓Wturn_none, ↓Wturn_some, ↓accO_some, ↓accO_none, ↓res_val, ↓res_pk, ↓slotD_0, ↓slotD_s, W1_some, WJ_some, W1_none, WJ_none, Wf_fz, Wf_lst, Wf_dct, Wf_obj, Wb_bl, Wi_int, Wif_true, Wif_false, Wv_fz, Wv_ow, Wv_owd, Wv_owo, Wsem_ok, setR_fz, setR_fr, Wrv_some, Wpk_some, Wunp_fz, Wunps_lst, WisL_lst, Wapp_ow, Wapp_io, Wseti_ow, Wseti_io, Wretv_fz, Wretv_ow, Wpop_io, Wpop_ow, accO_some, accO_none, Int.reduceLT, Int.reduceLE, Nat.reduceLT, Nat.reduceLeDiff, Int.reduceToNat, Int.reduceAdd, Int.reduceSub, Int.reduceMul, Int.reduceNeg, decide_true, decide_false, Bool.or_true, Bool.true_or, Bool.or_false, Bool.false_or, Bool.and_true, Bool.true_and, Bool.and_false, Bool.false_and, Bool.not_true, Bool.not_false, and_true, true_and, Option.map_some, Option.map_none, Option.bind_some, Option.bind_none, List.set_cons_zero, List.set_cons_succ, k1_len_str, k1_len_tup, k1_len_lst, k1_len_frl, k1_abs, k1_neg, k1_int, k1_intb, k1_tuple_lst, k1_tuple_tup, k1_list_lst, k1_list_tup, k1_rev, k1_isN, k1_notN, k2_add, k2_add_str, k2_add_lst, k2_sub, k1_isT, k1_notT, k2_mul, k2_muls, k2_fdiv, k2_mod, k2_pow6, k2_pow18, k2_pow12, k2_lt, k2_le, k2_gt, k2_ge, k2_eq, k2_ne, k2_in, k2_notin, k2_idx, idx_0, idx_1, idx_2, idx_3, idt_0, idt_1, idt_2, idt_3, k2_max, slc_str, slc_lst, slc_frl, seq_lst, seq_tup, seq_str, turnE_nx, turnE_ct, turnE_rt, turnE_bk, wipeD, backW, freeT_nil, freeT_cons, freeT1_none, freeT1_fz, freeT1_fzs, lockI, lockD_n, lockD_s, openD_n, openD_s, bindT_1, bindT_2, bindM, size_le, List.foldl_cons, List.foldl_nil, List.all_cons, List.all_nil, List.getElem?_cons_zero, List.getElem?_cons_succ, Option.join_some, Option.join_none, List.zip_cons_cons, List.zip_nil_left, List.length_cons, List.length_nil, List.length_append, Nat.reduceAdd, Nat.reduceEqDiff, Bool.false_eq_true, if_true, if_false, ↓reduceIte, ite_true, ite_false, ki_int_int, ki_int_str, ki_int_bool, ki_int_list, ki_int_tuple, ki_int_dict, ki_bl_int, ki_bl_str, ki_bl_bool, ki_bl_list, ki_bl_tuple, ki_bl_dict, ki_str_int, ki_str_str, ki_str_bool, ki_str_list, ki_str_tuple, ki_str_dict, ki_lst_int, ki_lst_str, ki_lst_bool, ki_lst_list, ki_lst_tuple, ki_lst_dict, ki_frl_int, ki_frl_str, ki_frl_bool, ki_frl_list, ki_frl_tuple, ki_frl_dict, ki_tup_int, ki_tup_str, ki_tup_bool, ki_tup_list, ki_tup_tuple, ki_tup_dict, ki_dct_int, ki_dct_str, ki_dct_bool, ki_dct_list, ki_dct_tuple, ki_dct_dict, ki_non_int, ki_non_str, ki_non_bool, ki_non_list, ki_non_tuple, ki_non_dict, kis_nil, kis_t, kis_f, Z.argsOf, Z.argOf, Z.backTo, Z.outsOf, List.any_nil, List.any_cons, Tis_constant_1_0, constB]
  · simp only [↓We_var, ↓We_int, ↓We_str, ↓We_bl, ↓We_non, ↓We_gl, ↓We_dspc, ↓We_fs, ↓We_tup, ↓We_lst, ↓We_op1, ↓We_op2, ↓We_sm1, ↓We_slc, ↓We_isi, ↓We_and, ↓We_or, ↓We_one, ↓We_not, ↓We_ife, ↓We_chn, ↓We_pop, ↓We_call, ↓We_callk, ↓We_comp, ↓Wr_var, ↓Wr_int, ↓Wr_str, ↓Wr_bl, ↓Wr_non, ↓Wr_gl, ↓Wr_dspc, ↓Wr_fs, ↓Wr_tup, ↓Wr_lst, ↓Wr_op1, ↓Wr_op2, ↓Wr_sm1, ↓Wr_slc, ↓Wr_isi, ↓Wr_and, ↓Wr_or, ↓Wr_not, ↓Wr_ife, ↓Wr_chn, ↓Wr_pop, ↓Wr_call, ↓Wr_callk, ↓Wr_comp, ↓Ws_set, ↓Ws_unp, ↓Ws_unps, ↓Ws_app, ↓Ws_seti, ↓Ws_setf, ↓Ws_expr, ↓Ws_ife, ↓Ws_for, ↓Ws_while, ↓Ws_ret, ↓Ws_retv, ↓Ws_retn, ↓Ws_brk, ↓Ws_cont, ↓Ws_pass, ↓Wss_cons, ↓Wss_nil, ↓Wes_nil, ↓Wes_cons, ↓Wo_none, ↓Wo_some, ↓Was_nil, ↓Was_ev, ↓Was_pk, ↓Wcall_def, catA_nil, catA_cons, ↓Wsrc_seq, ↓Wsrc_rng1, ↓Wsrc_rng2, ↓Wsrc_zip, ↓seq_nx, ↓seq_rt, ↓seq_bk, ↓seq_ct, ↓seq_ex, ↓W1_some, ↓WJ_some, ↓W1_none, ↓WJ_none, ↓Wf_fz, ↓Wf_lst, ↓Wf_dct, ↓Wf_obj, ↓Wb_bl, ↓Wi_int, ↓Wif_true, ↓Wif_false, ↓Wv_fz, ↓Wv_ow, ↓Wv_owd, ↓Wv_owo, ↓Wsem_ok, ↓setR_fz, ↓setR_fr, ↓Wrv_some, ↓Wpk_some, ↓Wunp_fz, ↓Wunps_lst, ↓WisL_lst, ↓Wapp_ow, ↓Wapp_io, ↓Wseti_ow, ↓Wseti_io, ↓Wretv_fz, ↓Wretv_ow, ↓Wpop_io, ↓Wpop_ow, ↓Wturn_none, ↓Wturn_some, ↓accO_some, ↓accO_none, ↓res_val, ↓res_pk, ↓slotD_0, ↓slotD_s, W1_some, WJ_some, W1_none, WJ_none, Wf_fz, Wf_lst, Wf_dct, Wf_obj, Wb_bl, Wi_int, Wif_true, Wif_false, Wv_fz, Wv_ow, Wv_owd, Wv_owo, Wsem_ok, setR_fz, setR_fr, Wrv_some, Wpk_some, Wunp_fz, Wunps_lst, WisL_lst, Wapp_ow, Wapp_io, Wseti_ow, Wseti_io, Wretv_fz, Wretv_ow, Wpop_io, Wpop_ow, accO_some, accO_none, Int.reduceLT, Int.reduceLE, Nat.reduceLT, Nat.reduceLeDiff, Int.reduceToNat, Int.reduceAdd, Int.reduceSub, Int.reduceMul, Int.reduceNeg, decide_true, decide_false, Bool.or_true, Bool.true_or, Bool.or_false, Bool.false_or, Bool.and_true, Bool.true_and, Bool.and_false, Bool.false_and, Bool.not_true, Bool.not_false, and_true, true_and, Option.map_some, Option.map_none, Option.bind_some, Option.bind_none, List.set_cons_zero, List.set_cons_succ, k1_len_str, k1_len_tup, k1_len_lst, k1_len_frl, k1_abs, k1_neg, k1_int, k1_intb, k1_tuple_lst, k1_tuple_tup, k1_list_lst, k1_list_tup, k1_rev, k1_isN, k1_notN, k2_add, k2_add_str, k2_add_lst, k2_sub, k1_isT, k1_notT, k2_mul, k2_muls, k2_fdiv, k2_mod, k2_pow6, k2_pow18, k2_pow12, k2_lt, k2_le, k2_gt, k2_ge, k2_eq, k2_ne, k2_in, k2_notin, k2_idx, idx_0, idx_1, idx_2, idx_3, idt_0, idt_1, idt_2, idt_3, k2_max, slc_str, slc_lst, slc_frl, seq_lst, seq_tup, seq_str, turnE_nx, turnE_ct, turnE_rt, turnE_bk, wipeD, backW, freeT_nil, freeT_cons, freeT1_none, freeT1_fz, freeT1_fzs, lockI, lockD_n, lockD_s, openD_n, openD_s, bindT_1, bindT_2, bindM, size_le, List.foldl_cons, List.foldl_nil, List.all_cons, List.all_nil, List.getElem?_cons_zero, List.getElem?_cons_succ, Option.join_some, Option.join_none, List.zip_cons_cons, List.zip_nil_left, List.length_cons, List.length_nil, List.length_append, Nat.reduceAdd, Nat.reduceEqDiff, Bool.false_eq_true, if_true, if_false, ↓reduceIte, ite_true, ite_false, ki_int_int, ki_int_str, ki_int_bool, ki_int_list, ki_int_tuple, ki_int_dict, ki_bl_int, ki_bl_str, ki_bl_bool, ki_bl_list, ki_bl_tuple, ki_bl_dict, ki_str_int, ki_str_str, ki_str_bool, ki_str_list, ki_str_tuple, ki_str_dict, ki_lst_int, ki_lst_str, ki_lst_bool, ki_lst_list, ki_lst_tuple, ki_lst_dict, ki_frl_int, ki_frl_str, ki_frl_bool, ki_frl_list, ki_frl_tuple, ki_frl_dict, ki_tup_int, ki_tup_str, ki_tup_bool, ki_tup_list, ki_tup_tuple, ki_tup_dict, ki_dct_int, ki_dct_str, ki_dct_bool, ki_dct_list, ki_dct_tuple, ki_dct_dict, ki_non_int, ki_non_str, ki_non_bool, ki_non_list, ki_non_tuple, ki_non_dict, kis_nil, kis_t, kis_f, Z.argsOf, Z.argOf, Z.backTo, Z.outsOf, List.any_nil, List.any_cons, Tis_constant_1_0, constB]
  · simp only [↓We_var, ↓We_int, ↓We_str, ↓We_bl, ↓We_non, ↓We_gl, ↓We_dspc, ↓We_fs, ↓We_tup, ↓We_lst, ↓We_op1, ↓We_op2, ↓We_sm1, ↓We_slc, ↓We_isi, ↓We_and, ↓We_or, ↓We_one, ↓We_not, ↓We_ife, ↓We_chn, ↓We_pop, ↓We_call, ↓We_callk, ↓We_comp, ↓Wr_var, ↓Wr_int, ↓Wr_str, ↓Wr_bl, ↓Wr_non, ↓Wr_gl, ↓Wr_dspc, ↓Wr_fs, ↓Wr_tup, ↓Wr_lst, ↓Wr_op1, ↓Wr_op2, ↓Wr_sm1, ↓Wr_slc, ↓Wr_isi, ↓Wr_and, ↓Wr_or, ↓Wr_not, ↓Wr_ife, ↓Wr_chn, ↓Wr_pop, ↓Wr_call, ↓Wr_callk, ↓Wr_comp, ↓Ws_set, ↓Ws_unp, ↓Ws_unps, ↓Ws_app, ↓Ws_seti, ↓Ws_setf, ↓Ws_expr, ↓Ws_ife, ↓Ws_for, ↓Ws_while, ↓Ws_ret, ↓Ws_retv, ↓Ws_retn, ↓Ws_brk, ↓Ws_cont, ↓Ws_pass, ↓Wss_cons, ↓Wss_nil, ↓Wes_nil, ↓Wes_cons, ↓Wo_none, ↓Wo_some, ↓Was_nil, ↓Was_ev, ↓Was_pk, ↓Wcall_def, catA_nil, catA_cons, ↓Wsrc_seq, ↓Wsrc_rng1, ↓Wsrc_rng2, ↓Wsrc_zip, ↓seq_nx, ↓seq_rt, ↓seq_bk, ↓seq_ct, ↓seq_ex, ↓W1_some, ↓WJ_some, ↓W1_none, ↓WJ_none, ↓Wf_fz, ↓Wf_lst, ↓Wf_dct, ↓Wf_obj, ↓Wb_bl, ↓Wi_int, ↓Wif_true, ↓Wif_false, ↓Wv_fz, ↓Wv_ow, ↓Wv_owd, ↓Wv_owo, ↓Wsem_ok, ↓setR_fz, ↓setR_fr, ↓Wrv_some, ↓Wpk_some, ↓Wunp_fz, ↓Wunps_lst, ↓WisL_lst, ↓Wapp_ow, ↓Wapp_io, ↓Wseti_ow, ↓Wseti_io, ↓Wretv_fz, ↓Wretv_ow, ↓Wpop_io, ↓Wpop_ow, ↓Wturn_none, ↓Wturn_some, ↓accO_some, ↓accO_none, ↓res_val, ↓res_pk, ↓slotD_0, ↓slotD_s, W1_some, WJ_some, W1_none, WJ_none, Wf_fz, Wf_lst, Wf_dct, Wf_obj, Wb_bl, Wi_int, Wif_true, Wif_false, Wv_fz, Wv_ow, Wv_owd, Wv_owo, Wsem_ok, setR_fz, setR_fr, Wrv_some, Wpk_some, Wunp_fz, Wunps_lst, WisL_lst, Wapp_ow, Wapp_io, Wseti_ow, Wseti_io, Wretv_fz, Wretv_ow, Wpop_io, Wpop_ow, accO_some, accO_none, Int.reduceLT, Int.reduceLE, Nat.reduceLT, Nat.reduceLeDiff, Int.reduceToNat, Int.reduceAdd, Int.reduceSub, Int.reduceMul, Int.reduceNeg, decide_true, decide_false, Bool.or_true, Bool.true_or, Bool.or_false, Bool.false_or, Bool.and_true, Bool.true_and, Bool.and_false, Bool.false_and, Bool.not_true, Bool.not_false, and_true, true_and, Option.map_some, Option.map_none, Option.bind_some, Option.bind_none, List.set_cons_zero, List.set_cons_succ, k1_len_str, k1_len_tup, k1_len_lst, k1_len_frl, k1_abs, k1_neg, k1_int, k1_intb, k1_tuple_lst, k1_tuple_tup, k1_list_lst, k1_list_tup, k1_rev, k1_isN, k1_notN, k2_add, k2_add_str, k2_add_lst, k2_sub, k1_isT, k1_notT, k2_mul, k2_muls, k2_fdiv, k2_mod, k2_pow6, k2_pow18, k2_pow12, k2_lt, k2_le, k2_gt, k2_ge, k2_eq, k2_ne, k2_in, k2_notin, k2_idx, idx_0, idx_1, idx_2, idx_3, idt_0, idt_1, idt_2, idt_3, k2_max, slc_str, slc_lst, slc_frl, seq_lst, seq_tup, seq_str, turnE_nx, turnE_ct, turnE_rt, turnE_bk, wipeD, backW, freeT_nil, freeT_cons, freeT1_none, freeT1_fz, freeT1_fzs, lockI, lockD_n, lockD_s, openD_n, openD_s, bindT_1, bindT_2, bindM, size_le, List.foldl_cons, List.foldl_nil, List.all_cons, List.all_nil, List.getElem?_cons_zero, List.getElem?_cons_succ, Option.join_some, Option.join_none, List.zip_cons_cons, List.zip_nil_left, List.length_cons, List.length_nil, List.length_append, Nat.reduceAdd, Nat.reduceEqDiff, Bool.false_eq_true, if_true, if_false, ↓reduceIte, ite_true, ite_false, ki_int_int, ki_int_str, ki_int_bool, ki_int_list, ki_int_tuple, ki_int_dict, ki_bl_int, ki_bl_str, ki_bl_bool, ki_bl_list, ki_bl_tuple, ki_bl_dict, ki_str_int, ki_str_str, ki_str_bool, ki_str_list, ki_str_tuple, ki_str_dict, ki_lst_int, ki_lst_str, ki_lst_bool, ki_lst_list, ki_lst_tuple, ki_lst_dict, ki_frl_int, ki_frl_str, ki_frl_bool, ki_frl_list, ki_frl_tuple, ki_frl_dict, ki_tup_int, ki_tup_str, ki_tup_bool, ki_tup_list, ki_tup_tuple, ki_tup_dict, ki_dct_int, ki_dct_str, ki_dct_bool, ki_dct_list, ki_dct_tuple, ki_dct_dict, ki_non_int, ki_non_str, ki_non_bool, ki_non_list, ki_non_tuple, ki_non_dict, kis_nil, kis_t, kis_f, Z.argsOf, Z.argOf, Z.backTo, Z.outsOf, List.any_nil, List.any_cons, Tis_constant_1_0, constB]
  · simp only [↓We_var, ↓We_int, ↓We_str, ↓We_bl, ↓We_non, ↓We_gl, ↓We_dspc, ↓We_fs, ↓We_tup, ↓We_lst, ↓We_op1, ↓We_op2, ↓We_sm1, ↓We_slc, ↓We_isi, ↓We_and, ↓We_or, ↓We_one, ↓We_not, ↓We_ife, ↓We_chn, ↓We_pop, ↓We_call, ↓We_callk, ↓We_comp, ↓Wr_var, ↓Wr_int, ↓Wr_str, ↓Wr_bl, ↓Wr_non, ↓Wr_gl, ↓Wr_dspc, ↓Wr_fs, ↓Wr_tup, ↓Wr_lst, ↓Wr_op1, ↓Wr_op2, ↓Wr_sm1, ↓Wr_slc, ↓Wr_isi, ↓Wr_and, ↓Wr_or, ↓Wr_not, ↓Wr_ife, ↓Wr_chn, ↓Wr_pop, ↓Wr_call, ↓Wr_callk, ↓Wr_comp, ↓Ws_set, ↓Ws_unp, ↓Ws_unps, ↓Ws_app, ↓Ws_seti, ↓Ws_setf, ↓Ws_expr, ↓Ws_ife, ↓Ws_for, ↓Ws_while, ↓Ws_ret, ↓Ws_retv, ↓Ws_retn, ↓Ws_brk, ↓Ws_cont, ↓Ws_pass, ↓Wss_cons, ↓Wss_nil, ↓Wes_nil, ↓Wes_cons, ↓Wo_none, ↓Wo_some, ↓Was_nil, ↓Was_ev, ↓Was_pk, ↓Wcall_def, catA_nil, catA_cons, ↓Wsrc_seq, ↓Wsrc_rng1, ↓Wsrc_rng2, ↓Wsrc_zip, ↓seq_nx, ↓seq_rt, ↓seq_bk, ↓seq_ct, ↓seq_ex, ↓W1_some, ↓WJ_some, ↓W1_none, ↓WJ_none, ↓Wf_fz, ↓Wf_lst, ↓Wf_dct, ↓Wf_obj, ↓Wb_bl, ↓Wi_int, ↓Wif_true, ↓Wif_false, ↓Wv_fz, ↓Wv_ow, ↓Wv_owd, ↓Wv_owo, ↓Wsem_ok, ↓setR_fz, ↓setR_fr, ↓Wrv_some, ↓Wpk_some, ↓Wunp_fz, ↓Wunps_lst, ↓WisL_lst, ↓Wapp_ow, ↓Wapp_io, ↓Wseti_ow, ↓Wseti_io, ↓Wretv_fz, ↓Wretv_ow, ↓Wpop_io, ↓Wpop_ow, ↓Wturn_none, ↓Wturn_some, ↓accO_some, ↓accO_none, ↓res_val, ↓res_pk, ↓slotD_0, ↓slotD_s, W1_some, WJ_some, W1_none, WJ_none, Wf_fz, Wf_lst, Wf_dct, Wf_obj, Wb_bl, Wi_int, Wif_true, Wif_false, Wv_fz, Wv_ow, Wv_owd, Wv_owo, Wsem_ok, setR_fz, setR_fr, Wrv_some, Wpk_some, Wunp_fz, Wunps_lst, WisL_lst, Wapp_ow, Wapp_io, Wseti_ow, Wseti_io, Wretv_fz, Wretv_ow, Wpop_io, Wpop_ow, accO_some, accO_none, Int.reduceLT, Int.reduceLE, Nat.reduceLT, Nat.reduceLeDiff, Int.reduceToNat, Int.reduceAdd, Int.reduceSub, Int.reduceMul, Int.reduceNeg, decide_true, decide_false, Bool.or_true, Bool.true_or, Bool.or_false, Bool.false_or, Bool.and_true, Bool.true_and, Bool.and_false, Bool.false_and, Bool.not_true, Bool.not_false, and_true, true_and, Option.map_some, Option.map_none, Option.bind_some, Option.bind_none, List.set_cons_zero, List.set_cons_succ, k1_len_str, k1_len_tup, k1_len_lst, k1_len_frl, k1_abs, k1_neg, k1_int, k1_intb, k1_tuple_lst, k1_tuple_tup, k1_list_lst, k1_list_tup, k1_rev, k1_isN, k1_notN, k2_add, k2_add_str, k2_add_lst, k2_sub, k1_isT, k1_notT, k2_mul, k2_muls, k2_fdiv, k2_mod, k2_pow6, k2_pow18, k2_pow12, k2_lt, k2_le, k2_gt, k2_ge, k2_eq, k2_ne, k2_in, k2_notin, k2_idx, idx_0, idx_1, idx_2, idx_3, idt_0, idt_1, idt_2, idt_3, k2_max, slc_str, slc_lst, slc_frl, seq_lst, seq_tup, seq_str, turnE_nx, turnE_ct, turnE_rt, turnE_bk, wipeD, backW, freeT_nil, freeT_cons, freeT1_none, freeT1_fz, freeT1_fzs, lockI, lockD_n, lockD_s, openD_n, openD_s, bindT_1, bindT_2, bindM, size_le, List.foldl_cons, List.foldl_nil, List.all_cons, List.all_nil, List.getElem?_cons_zero, List.getElem?_cons_succ, Option.join_some, Option.join_none, List.zip_cons_cons, List.zip_nil_left, List.length_cons, List.length_nil, List.length_append, Nat.reduceAdd, Nat.reduceEqDiff, Bool.false_eq_true, if_true, if_false, ↓reduceIte, ite_true, ite_false, ki_int_int, ki_int_str, ki_int_bool, ki_int_list, ki_int_tuple, ki_int_dict, ki_bl_int, ki_bl_str, ki_bl_bool, ki_bl_list, ki_bl_tuple, ki_bl_dict, ki_str_int, ki_str_str, ki_str_bool, ki_str_list, ki_str_tuple, ki_str_dict, ki_lst_int, ki_lst_str, ki_lst_bool, ki_lst_list, ki_lst_tuple, ki_lst_dict, ki_frl_int, ki_frl_str, ki_frl_bool, ki_frl_list, ki_frl_tuple, ki_frl_dict, ki_tup_int, ki_tup_str, ki_tup_bool, ki_tup_list, ki_tup_tuple, ki_tup_dict, ki_dct_int, ki_dct_str, ki_dct_bool, ki_dct_list, ki_dct_tuple, ki_dct_dict, ki_non_int, ki_non_str, ki_non_bool, ki_non_list, ki_non_tuple, ki_non_dict, kis_nil, kis_t, kis_f, Z.argsOf, Z.argOf, Z.backTo, Z.outsOf, List.any_nil, List.any_cons, Tis_constant_1_0, constB]
  · simp only [↓We_var, ↓We_int, ↓We_str, ↓We_bl, ↓We_non, ↓We_gl, ↓We_dspc, ↓We_fs, ↓We_tup, ↓We_lst, ↓We_op1, ↓We_op2, ↓We_sm1, ↓We_slc, ↓We_isi, ↓We_and, ↓We_or, ↓We_one, ↓We_not, ↓We_ife, ↓We_chn, ↓We_pop, ↓We_call, ↓We_callk, ↓We_comp, ↓Wr_var, ↓Wr_int, ↓Wr_str, ↓Wr_bl, ↓Wr_non, ↓Wr_gl, ↓Wr_dspc, ↓Wr_fs, ↓Wr_tup, ↓Wr_lst, ↓Wr_op1, ↓Wr_op2, ↓Wr_sm1, ↓Wr_slc, ↓Wr_isi, ↓Wr_and, ↓Wr_or, ↓Wr_not, ↓Wr_ife, ↓Wr_chn, ↓Wr_pop, ↓Wr_call, ↓Wr_callk, ↓Wr_comp, ↓Ws_set, ↓Ws_unp, ↓Ws_unps, ↓Ws_app, ↓Ws_seti, ↓Ws_setf, ↓Ws_expr, ↓Ws_ife, ↓Ws_for, ↓Ws_while, ↓Ws_ret, ↓Ws_retv, ↓Ws_retn, ↓Ws_brk, ↓Ws_cont, ↓Ws_pass, ↓Wss_cons, ↓Wss_nil, ↓Wes_nil, ↓Wes_cons, ↓Wo_none, ↓Wo_some, ↓Was_nil, ↓Was_ev, ↓Was_pk, ↓Wcall_def, catA_nil, catA_cons, ↓Wsrc_seq, ↓Wsrc_rng1, ↓Wsrc_rng2, ↓Wsrc_zip, ↓seq_nx, ↓seq_rt, ↓seq_bk, ↓seq_ct, ↓seq_ex, ↓W1_some, ↓WJ_some, ↓W1_none, ↓WJ_none, ↓Wf_fz, ↓Wf_lst, ↓Wf_dct, ↓Wf_obj, ↓Wb_bl, ↓Wi_int, ↓Wif_true, ↓Wif_false, ↓Wv_fz, ↓Wv_ow, ↓Wv_owd, ↓Wv_owo, ↓Wsem_ok, ↓setR_fz, ↓setR_fr, ↓Wrv_some, ↓Wpk_some, ↓Wunp_fz, ↓Wunps_lst, ↓WisL_lst, ↓Wapp_ow, ↓Wapp_io, ↓Wseti_ow, ↓Wseti_io, ↓Wretv_fz, ↓Wretv_ow, ↓Wpop_io, ↓Wpop_ow, ↓Wturn_none, ↓Wturn_some, ↓accO_some, ↓accO_none, ↓res_val, ↓res_pk, ↓slotD_0, ↓slotD_s, W1_some, WJ_some, W1_none, WJ_none, Wf_fz, Wf_lst, Wf_dct, Wf_obj, Wb_bl, Wi_int, Wif_true, Wif_false, Wv_fz, Wv_ow, Wv_owd, Wv_owo, Wsem_ok, setR_fz, setR_fr, Wrv_some, Wpk_some, Wunp_fz, Wunps_lst, WisL_lst, Wapp_ow, Wapp_io, Wseti_ow, Wseti_io, Wretv_fz, Wretv_ow, Wpop_io, Wpop_ow, accO_some, accO_none, Int.reduceLT, Int.reduceLE, Nat.reduceLT, Nat.reduceLeDiff, Int.reduceToNat, Int.reduceAdd, Int.reduceSub, Int.reduceMul, Int.reduceNeg, decide_true, decide_false, Bool.or_true, Bool.true_or, Bool.or_false, Bool.false_or, Bool.and_true, Bool.true_and, Bool.and_false, Bool.false_and, Bool.not_true, Bool.not_false, and_true, true_and, Option.map_some, Option.map_none, Option.bind_some, Option.bind_none, List.set_cons_zero, List.set_cons_succ, k1_len_str, k1_len_tup, k1_len_lst, k1_len_frl, k1_abs, k1_neg, k1_int, k1_intb, k1_tuple_lst, k1_tuple_tup, k1_list_lst, k1_list_tup, k1_rev, k1_isN, k1_notN, k2_add, k2_add_str, k2_add_lst, k2_sub, k1_isT, k1_notT, k2_mul, k2_muls, k2_fdiv, k2_mod, k2_pow6, k2_pow18, k2_pow12, k2_lt, k2_le, k2_gt, k2_ge, k2_eq, k2_ne, k2_in, k2_notin, k2_idx, idx_0, idx_1, idx_2, idx_3, idt_0, idt_1, idt_2, idt_3, k2_max, slc_str, slc_lst, slc_frl, seq_lst, seq_tup, seq_str, turnE_nx, turnE_ct, turnE_rt, turnE_bk, wipeD, backW, freeT_nil, freeT_cons, freeT1_none, freeT1_fz, freeT1_fzs, lockI, lockD_n, lockD_s, openD_n, openD_s, bindT_1, bindT_2, bindM, size_le, List.foldl_cons, List.foldl_nil, List.all_cons, List.all_nil, List.getElem?_cons_zero, List.getElem?_cons_succ, Option.join_some, Option.join_none, List.zip_cons_cons, List.zip_nil_left, List.length_cons, List.length_nil, List.length_append, Nat.reduceAdd, Nat.reduceEqDiff, Bool.false_eq_true, if_true, if_false, ↓reduceIte, ite_true, ite_false, ki_int_int, ki_int_str, ki_int_bool, ki_int_list, ki_int_tuple, ki_int_dict, ki_bl_int, ki_bl_str, ki_bl_bool, ki_bl_list, ki_bl_tuple, ki_bl_dict, ki_str_int, ki_str_str, ki_str_bool, ki_str_list, ki_str_tuple, ki_str_dict, ki_lst_int, ki_lst_str, ki_lst_bool, ki_lst_list, ki_lst_tuple, ki_lst_dict, ki_frl_int, ki_frl_str, ki_frl_bool, ki_frl_list, ki_frl_tuple, ki_frl_dict, ki_tup_int, ki_tup_str, ki_tup_bool, ki_tup_list, ki_tup_tuple, ki_tup_dict, ki_dct_int, ki_dct_str, ki_dct_bool, ki_dct_list, ki_dct_tuple, ki_dct_dict, ki_non_int, ki_non_str, ki_non_bool, ki_non_list, ki_non_tuple, ki_non_dict, kis_nil, kis_t, kis_f, Z.argsOf, Z.argOf, Z.backTo, Z.outsOf, List.any_nil, List.any_cons, Tis_constant_1_0, constB]
/-- a text of 1 to m signs, the first one of t, the others of u -/
def wordLike (m : Nat) (t u : List Nat) : List Nat → Bool
  | [] => false
  | c :: s => decide ((c :: s).length ≤ m) && decide (c ∈ t) && onlyB s u
def varB : D → Bool
  | .str s => wordLike 10 CAP (SML ++ CAP ++ DIG) s
  | _ => false
theorem cut1 {c : Nat} {s : List Nat} : cutD (c :: s) (some 1) none = s := by
  unfold cutD clipD
  simp
theorem is_variable_ok {d : D} (h : plain d = true) (hs : ∀ s, d = .str s → Ok s) : Fis_variable.sem [(.fz, d)] = .ok (.fz (.bl (varB d))) [d] := by
  rw [Fis_variable_sem]; refine runF_eq (np := 1) rfl ?_; simp only [List.map_cons, List.map_nil, List.replicate, Nat.reduceSub, List.replicate_zero, List.cons_append, List.nil_append, Bis_variable, Tis_variable_0_0]
  cases d <;> first | cases h | skip
  · simp only [↓We_var, ↓We_int, ↓We_str, ↓We_bl, ↓We_non, ↓We_gl, ↓We_dspc, ↓We_fs, ↓We_tup, ↓We_lst, ↓We_op1, ↓We_op2, ↓We_sm1, ↓We_slc, ↓We_isi, ↓We_and, ↓We_or, ↓We_one, ↓We_not, ↓We_ife, ↓We_chn, ↓We_pop, ↓We_call, ↓We_callk, ↓We_comp, ↓Wr_var, ↓Wr_int, ↓Wr_str, ↓Wr_bl, ↓Wr_non, ↓Wr_gl, ↓Wr_dspc, ↓Wr_fs, ↓Wr_tup, ↓Wr_lst, ↓Wr_op1, ↓Wr_op2, ↓Wr_sm1, ↓Wr_slc, ↓Wr_isi, ↓Wr_and, ↓Wr_or, ↓Wr_not, ↓Wr_ife, ↓Wr_chn, ↓Wr_pop, ↓Wr_call, ↓Wr_callk, ↓Wr_comp, ↓Ws_set, ↓Ws_unp, ↓Ws_unps, ↓Ws_app, ↓Ws_seti, ↓Ws_setf, ↓Ws_expr, ↓Ws_ife, ↓Ws_for, ↓Ws_while, ↓Ws_ret, ↓Ws_retv, ↓Ws_retn, ↓Ws_brk, ↓Ws_cont, ↓Ws_pass, ↓Wss_cons, ↓Wss_nil, ↓Wes_nil, ↓Wes_cons, ↓Wo_none, ↓Wo_some, ↓Was_nil, ↓Was_ev, ↓Was_pk, ↓Wcall_def, catA_nil, catA_cons, ↓Wsrc_seq, ↓Wsrc_rng1, ↓Wsrc_rng2, ↓Wsrc_zip, ↓seq_nx, ↓seq_rt, ↓seq_bk, ↓seq_ct, ↓seq_ex, ↓W1_some, ↓WJ_some, ↓W1_none, ↓WJ_none, ↓Wf_fz, ↓Wf_lst, ↓Wf_dct, ↓Wf_obj, ↓Wb_bl, ↓Wi_int, ↓Wif_true, ↓Wif_false, ↓Wv_fz, ↓Wv_ow, ↓Wv_owd, ↓Wv_owo, ↓Wsem_ok, ↓setR_fz, ↓setR_fr, ↓Wrv_some, ↓Wpk_some, ↓Wunp_fz, ↓Wunps_lst, ↓WisL_lst, ↓Wapp_ow, ↓Wapp_io, ↓Wseti_ow, ↓Wseti_io, ↓Wretv_fz, ↓Wretv_ow, ↓Wpop_io, ↓Wpop_ow, ↓Wturn_none, ↓Wturn_some, ↓accO_some, ↓accO_none, ↓res_val, ↓res_pk, ↓slotD_0, ↓slotD_s, W1_some, WJ_some, W1_none, WJ_none, Wf_fz, Wf_lst, Wf_dct, Wf_obj, Wb_bl, Wi_int, Wif_true, Wif_false, Wv_fz, Wv_ow, Wv_owd, Wv_owo, Wsem_ok, setR_fz, setR_fr, Wrv_some, Wpk_some, Wunp_fz, Wunps_lst, WisL_lst, Wapp_ow, Wapp_io, Wseti_ow, Wseti_io, Wretv_fz, Wretv_ow, Wpop_io, Wpop_ow, accO_some, accO_none, Int.reduceLT, Int.reduceLE, Nat.reduceLT, Nat.reduceLeDiff, Int.reduceToNat, Int.reduceAdd, Int.reduceSub, Int.reduceMul, Int.reduceNeg, decide_true, decide_false, Bool.or_true, Bool.true_or, Bool.or_false, Bool.false_or, Bool.and_true, Bool.true_and, Bool.and_false, Bool.false_and, Bool.not_true, Bool.not_false, and_true, true_and, Option.map_some, Option.map_none, Option.bind_some, Option.bind_none, List.set_cons_zero, List.set_cons_succ, k1_len_str, k1_len_tup, k1_len_lst, k1_len_frl, k1_abs, k1_neg, k1_int, k1_intb, k1_tuple_lst, k1_tuple_tup, k1_list_lst, k1_list_tup, k1_rev, k1_isN, k1_notN, k2_add, k2_add_str, k2_add_lst, k2_sub, k1_isT, k1_notT, k2_mul, k2_muls, k2_fdiv, k2_mod, k2_pow6, k2_pow18, k2_pow12, k2_lt, k2_le, k2_gt, k2_ge, k2_eq, k2_ne, k2_in, k2_notin, k2_idx, idx_0, idx_1, idx_2, idx_3, idt_0, idt_1, idt_2, idt_3, k2_max, slc_str, slc_lst, slc_frl, seq_lst, seq_tup, seq_str, turnE_nx, turnE_ct, turnE_rt, turnE_bk, wipeD, backW, freeT_nil, freeT_cons, freeT1_none, freeT1_fz, freeT1_fzs, lockI, lockD_n, lockD_s, openD_n, openD_s, bindT_1, bindT_2, bindM, size_le, List.foldl_cons, List.foldl_nil, List.all_cons, List.all_nil, List.getElem?_cons_zero, List.getElem?_cons_succ, Option.join_some, Option.join_none, List.zip_cons_cons, List.zip_nil_left, List.length_cons, List.length_nil, List.length_append, Nat.reduceAdd, Nat.reduceEqDiff, Bool.false_eq_true, if_true, if_false, ↓reduceIte, ite_true, ite_false, ki_int_int, ki_int_str, ki_int_bool, ki_int_list, ki_int_tuple, ki_int_dict, ki_bl_int, ki_bl_str, ki_bl_bool, ki_bl_list, ki_bl_tuple, ki_bl_dict, ki_str_int, ki_str_str, ki_str_bool, ki_str_list, ki_str_tuple, ki_str_dict, ki_lst_int, ki_lst_str, ki_lst_bool, ki_lst_list, ki_lst_tuple, ki_lst_dict, ki_frl_int, ki_frl_str, ki_frl_bool, ki_frl_list, ki_frl_tuple, ki_frl_dict, ki_tup_int, ki_tup_str, ki_tup_bool, ki_tup_list, ki_tup_tuple, ki_tup_dict, ki_dct_int, ki_dct_str, ki_dct_bool, ki_dct_list, ki_dct_tuple, ki_dct_dict, ki_non_int, ki_non_str, ki_non_bool, ki_non_list, ki_non_tuple, ki_non_dict, kis_nil, kis_t, kis_f, Z.argsOf, Z.argOf, Z.backTo, Z.outsOf, List.any_nil, List.any_cons, Tis_variable_1_0, varB]
  · simp only [↓We_var, ↓We_int, ↓We_str, ↓We_bl, ↓We_non, ↓We_gl, ↓We_dspc, ↓We_fs, ↓We_tup, ↓We_lst, ↓We_op1, ↓We_op2, ↓We_sm1, ↓We_slc, ↓We_isi, ↓We_and, ↓We_or, ↓We_one, ↓We_not, ↓We_ife, ↓We_chn, ↓We_pop, ↓We_call, ↓We_callk, ↓We_comp, ↓Wr_var, ↓Wr_int, ↓Wr_str, ↓Wr_bl, ↓Wr_non, ↓Wr_gl, ↓Wr_dspc, ↓Wr_fs, ↓Wr_tup, ↓Wr_lst, ↓Wr_op1, ↓Wr_op2, ↓Wr_sm1, ↓Wr_slc, ↓Wr_isi, ↓Wr_and, ↓Wr_or, ↓Wr_not, ↓Wr_ife, ↓Wr_chn, ↓Wr_pop, ↓Wr_call, ↓Wr_callk, ↓Wr_comp, ↓Ws_set, ↓Ws_unp, ↓Ws_unps, ↓Ws_app, ↓Ws_seti, ↓Ws_setf, ↓Ws_expr, ↓Ws_ife, ↓Ws_for, ↓Ws_while, ↓Ws_ret, ↓Ws_retv, ↓Ws_retn, ↓Ws_brk, ↓Ws_cont, ↓Ws_pass, ↓Wss_cons, ↓Wss_nil, ↓Wes_nil, ↓Wes_cons, ↓Wo_none, ↓Wo_some, ↓Was_nil, ↓Was_ev, ↓Was_pk, ↓Wcall_def, catA_nil, catA_cons, ↓Wsrc_seq, ↓Wsrc_rng1, ↓Wsrc_rng2, ↓Wsrc_zip, ↓seq_nx, ↓seq_rt, ↓seq_bk, ↓seq_ct, ↓seq_ex, ↓W1_some, ↓WJ_some, ↓W1_none, ↓WJ_none, ↓Wf_fz, ↓Wf_lst, ↓Wf_dct, ↓Wf_obj, ↓Wb_bl, ↓Wi_int, ↓Wif_true, ↓Wif_false, ↓Wv_fz, ↓Wv_ow, ↓Wv_owd, ↓Wv_owo, ↓Wsem_ok, ↓setR_fz, ↓setR_fr, ↓Wrv_some, ↓Wpk_some, ↓Wunp_fz, ↓Wunps_lst, ↓WisL_lst, ↓Wapp_ow, ↓Wapp_io, ↓Wseti_ow, ↓Wseti_io, ↓Wretv_fz, ↓Wretv_ow, ↓Wpop_io, ↓Wpop_ow, ↓Wturn_none, ↓Wturn_some, ↓accO_some, ↓accO_none, ↓res_val, ↓res_pk, ↓slotD_0, ↓slotD_s, W1_some, WJ_some, W1_none, WJ_none, Wf_fz, Wf_lst, Wf_dct, Wf_obj, Wb_bl, Wi_int, Wif_true, Wif_false, Wv_fz, Wv_ow, Wv_owd, Wv_owo, Wsem_ok, setR_fz, setR_fr, Wrv_some, Wpk_some, Wunp_fz, Wunps_lst, WisL_lst, Wapp_ow, Wapp_io, Wseti_ow, Wseti_io, Wretv_fz, Wretv_ow, Wpop_io, Wpop_ow, accO_some, accO_none, Int.reduceLT, Int.reduceLE, Nat.reduceLT, Nat.reduceLeDiff, Int.reduceToNat, Int.reduceAdd, Int.reduceSub, Int.reduceMul, Int.reduceNeg, decide_true, decide_false, Bool.or_true, Bool.true_or, Bool.or_false, Bool.false_or, Bool.and_true, Bool.true_and, Bool.and_false, Bool.false_and, Bool.not_true, Bool.not_false, and_true, true_and, Option.map_some, Option.map_none, Option.bind_some, Option.bind_none, List.set_cons_zero, List.set_cons_succ, k1_len_str, k1_len_tup, k1_len_lst, k1_len_frl, k1_abs, k1_neg, k1_int, k1_intb, k1_tuple_lst, k1_tuple_tup, k1_list_lst, k1_list_tup, k1_rev, k1_isN, k1_notN, k2_add, k2_add_str, k2_add_lst, k2_sub, k1_isT, k1_notT, k2_mul, k2_muls, k2_fdiv, k2_mod, k2_pow6, k2_pow18, k2_pow12, k2_lt, k2_le, k2_gt, k2_ge, k2_eq, k2_ne, k2_in, k2_notin, k2_idx, idx_0, idx_1, idx_2, idx_3, idt_0, idt_1, idt_2, idt_3, k2_max, slc_str, slc_lst, slc_frl, seq_lst, seq_tup, seq_str, turnE_nx, turnE_ct, turnE_rt, turnE_bk, wipeD, backW, freeT_nil, freeT_cons, freeT1_none, freeT1_fz, freeT1_fzs, lockI, lockD_n, lockD_s, openD_n, openD_s, bindT_1, bindT_2, bindM, size_le, List.foldl_cons, List.foldl_nil, List.all_cons, List.all_nil, List.getElem?_cons_zero, List.getElem?_cons_succ, Option.join_some, Option.join_none, List.zip_cons_cons, List.zip_nil_left, List.length_cons, List.length_nil, List.length_append, Nat.reduceAdd, Nat.reduceEqDiff, Bool.false_eq_true, if_true, if_false, ↓reduceIte, ite_true, ite_false, ki_int_int, ki_int_str, ki_int_bool, ki_int_list, ki_int_tuple, ki_int_dict, ki_bl_int, ki_bl_str, ki_bl_bool, ki_bl_list, ki_bl_tuple, ki_bl_dict, ki_str_int, ki_str_str, ki_str_bool, ki_str_list, ki_str_tuple, ki_str_dict, ki_lst_int, ki_lst_str, ki_lst_bool, ki_lst_list, ki_lst_tuple, ki_lst_dict, ki_frl_int, ki_frl_str, ki_frl_bool, ki_frl_list, ki_frl_tuple, ki_frl_dict, ki_tup_int, ki_tup_str, ki_tup_bool, ki_tup_list, ki_tup_tuple, ki_tup_dict, ki_dct_int, ki_dct_str, ki_dct_bool, ki_dct_list, ki_dct_tuple, ki_dct_dict, ki_non_int, ki_non_str, ki_non_bool, ki_non_list, ki_non_tuple, ki_non_dict, kis_nil, kis_t, kis_f, Z.argsOf, Z.argOf, Z.backTo, Z.outsOf, List.any_nil, List.any_cons, Tis_variable_1_0, varB]
  · simp only [↓We_var, ↓We_int, ↓We_str, ↓We_bl, ↓We_non, ↓We_gl, ↓We_dspc, ↓We_fs, ↓We_tup, ↓We_lst, ↓We_op1, ↓We_op2, ↓We_sm1, ↓We_slc, ↓We_isi, ↓We_and, ↓We_or, ↓We_one, ↓We_not, ↓We_ife, ↓We_chn, ↓We_pop, ↓We_call, ↓We_callk, ↓We_comp, ↓Wr_var, ↓Wr_int, ↓Wr_str, ↓Wr_bl, ↓Wr_non, ↓Wr_gl, ↓Wr_dspc, ↓Wr_fs, ↓Wr_tup, ↓Wr_lst, ↓Wr_op1, ↓Wr_op2, ↓Wr_sm1, ↓Wr_slc, ↓Wr_isi, ↓Wr_and, ↓Wr_or, ↓Wr_not, ↓Wr_ife, ↓Wr_chn, ↓Wr_pop, ↓Wr_call, ↓Wr_callk, ↓Wr_comp, ↓Ws_set, ↓Ws_unp, ↓Ws_unps, ↓Ws_app, ↓Ws_seti, ↓Ws_setf, ↓Ws_expr, ↓Ws_ife, ↓Ws_for, ↓Ws_while, ↓Ws_ret, ↓Ws_retv, ↓Ws_retn, ↓Ws_brk, ↓Ws_cont, ↓Ws_pass, ↓Wss_cons, ↓Wss_nil, ↓Wes_nil, ↓Wes_cons, ↓Wo_none, ↓Wo_some, ↓Was_nil, ↓Was_ev, ↓Was_pk, ↓Wcall_def, catA_nil, catA_cons, ↓Wsrc_seq, ↓Wsrc_rng1, ↓Wsrc_rng2, ↓Wsrc_zip, ↓seq_nx, ↓seq_rt, ↓seq_bk, ↓seq_ct, ↓seq_ex, ↓W1_some, ↓WJ_some, ↓W1_none, ↓WJ_none, ↓Wf_fz, ↓Wf_lst, ↓Wf_dct, ↓Wf_obj, ↓Wb_bl, ↓Wi_int, ↓Wif_true, ↓Wif_false, ↓Wv_fz, ↓Wv_ow, ↓Wv_owd, ↓Wv_owo, ↓Wsem_ok, ↓setR_fz, ↓setR_fr, ↓Wrv_some, ↓Wpk_some, ↓Wunp_fz, ↓Wunps_lst, ↓WisL_lst, ↓Wapp_ow, ↓Wapp_io, ↓Wseti_ow, ↓Wseti_io, ↓Wretv_fz, ↓Wretv_ow, ↓Wpop_io, ↓Wpop_ow, ↓Wturn_none, ↓Wturn_some, ↓accO_some, ↓accO_none, ↓res_val, ↓res_pk, ↓slotD_0, ↓slotD_s, W1_some, WJ_some, W1_none, WJ_none, Wf_fz, Wf_lst, Wf_dct, Wf_obj, Wb_bl, Wi_int, Wif_true, Wif_false, Wv_fz, Wv_ow, Wv_owd, Wv_owo, Wsem_ok, setR_fz, setR_fr, Wrv_some, Wpk_some, Wunp_fz, Wunps_lst, WisL_lst, Wapp_ow, Wapp_io, Wseti_ow, Wseti_io, Wretv_fz, Wretv_ow, Wpop_io, Wpop_ow, accO_some, accO_none, Int.reduceLT, Int.reduceLE, Nat.reduceLT, Nat.reduceLeDiff, Int.reduceToNat, Int.reduceAdd, Int.reduceSub, Int.reduceMul, Int.reduceNeg, decide_true, decide_false, Bool.or_true, Bool.true_or, Bool.or_false, Bool.false_or, Bool.and_true, Bool.true_and, Bool.and_false, Bool.false_and, Bool.not_true, Bool.not_false, and_true, true_and, Option.map_some, Option.map_none, Option.bind_some, Option.bind_none, List.set_cons_zero, List.set_cons_succ, k1_len_str, k1_len_tup, k1_len_lst, k1_len_frl, k1_abs, k1_neg, k1_int, k1_intb, k1_tuple_lst, k1_tuple_tup, k1_list_lst, k1_list_tup, k1_rev, k1_isN, k1_notN, k2_add, k2_add_str, k2_add_lst, k2_sub, k1_isT, k1_notT, k2_mul, k2_muls, k2_fdiv, k2_mod, k2_pow6, k2_pow18, k2_pow12, k2_lt, k2_le, k2_gt, k2_ge, k2_eq, k2_ne, k2_in, k2_notin, k2_idx, idx_0, idx_1, idx_2, idx_3, idt_0, idt_1, idt_2, idt_3, k2_max, slc_str, slc_lst, slc_frl, seq_lst, seq_tup, seq_str, turnE_nx, turnE_ct, turnE_rt, turnE_bk, wipeD, backW, freeT_nil, freeT_cons, freeT1_none, freeT1_fz, freeT1_fzs, lockI, lockD_n, lockD_s, openD_n, openD_s, bindT_1, bindT_2, bindM, size_le, List.foldl_cons, List.foldl_nil, List.all_cons, List.all_nil, List.getElem?_cons_zero, List.getElem?_cons_succ, Option.join_some, Option.join_none, List.zip_cons_cons, List.zip_nil_left, List.length_cons, List.length_nil, List.length_append, Nat.reduceAdd, Nat.reduceEqDiff, Bool.false_eq_true, if_true, if_false, ↓reduceIte, ite_true, ite_false, ki_int_int, ki_int_str, ki_int_bool, ki_int_list, ki_int_tuple, ki_int_dict, ki_bl_int, ki_bl_str, ki_bl_bool, ki_bl_list, ki_bl_tuple, ki_bl_dict, ki_str_int, ki_str_str, ki_str_bool, ki_str_list, ki_str_tuple, ki_str_dict, ki_lst_int, ki_lst_str, ki_lst_bool, ki_lst_list, ki_lst_tuple, ki_lst_dict, ki_frl_int, ki_frl_str, ki_frl_bool, ki_frl_list, ki_frl_tuple, ki_frl_dict, ki_tup_int, ki_tup_str, ki_tup_bool, ki_tup_list, ki_tup_tuple, ki_tup_dict, ki_dct_int, ki_dct_str, ki_dct_bool, ki_dct_list, ki_dct_tuple, ki_dct_dict, ki_non_int, ki_non_str, ki_non_bool, ki_non_list, ki_non_tuple, ki_non_dict, kis_nil, kis_t, kis_f, Z.argsOf, Z.argOf, Z.backTo, Z.outsOf, List.any_nil, List.any_cons, Tis_variable_1_0, varB]
  · rename_i s
    have hs := hs s rfl
    simp only [↓We_var, ↓We_int, ↓We_str, ↓We_bl, ↓We_non, ↓We_gl, ↓We_dspc, ↓We_fs, ↓We_tup, ↓We_lst, ↓We_op1, ↓We_op2, ↓We_sm1, ↓We_slc, ↓We_isi, ↓We_and, ↓We_or, ↓We_one, ↓We_not, ↓We_ife, ↓We_chn, ↓We_pop, ↓We_call, ↓We_callk, ↓We_comp, ↓Wr_var, ↓Wr_int, ↓Wr_str, ↓Wr_bl, ↓Wr_non, ↓Wr_gl, ↓Wr_dspc, ↓Wr_fs, ↓Wr_tup, ↓Wr_lst, ↓Wr_op1, ↓Wr_op2, ↓Wr_sm1, ↓Wr_slc, ↓Wr_isi, ↓Wr_and, ↓Wr_or, ↓Wr_not, ↓Wr_ife, ↓Wr_chn, ↓Wr_pop, ↓Wr_call, ↓Wr_callk, ↓Wr_comp, ↓Ws_set, ↓Ws_unp, ↓Ws_unps, ↓Ws_app, ↓Ws_seti, ↓Ws_setf, ↓Ws_expr, ↓Ws_ife, ↓Ws_for, ↓Ws_while, ↓Ws_ret, ↓Ws_retv, ↓Ws_retn, ↓Ws_brk, ↓Ws_cont, ↓Ws_pass, ↓Wss_cons, ↓Wss_nil, ↓Wes_nil, ↓Wes_cons, ↓Wo_none, ↓Wo_some, ↓Was_nil, ↓Was_ev, ↓Was_pk, ↓Wcall_def, catA_nil, catA_cons, ↓Wsrc_seq, ↓Wsrc_rng1, ↓Wsrc_rng2, ↓Wsrc_zip, ↓seq_nx, ↓seq_rt, ↓seq_bk, ↓seq_ct, ↓seq_ex, ↓W1_some, ↓WJ_some, ↓W1_none, ↓WJ_none, ↓Wf_fz, ↓Wf_lst, ↓Wf_dct, ↓Wf_obj, ↓Wb_bl, ↓Wi_int, ↓Wif_true, ↓Wif_false, ↓Wv_fz, ↓Wv_ow, ↓Wv_owd, ↓Wv_owo, ↓Wsem_ok, ↓setR_fz, ↓setR_fr, ↓Wrv_some, ↓Wpk_some, ↓Wunp_fz, ↓Wunps_lst, ↓WisL_lst, ↓Wapp_ow, ↓Wapp_io, ↓Wseti_ow, ↓Wseti_io, ↓Wretv_fz, ↓Wretv_ow, ↓Wpop_io, ↓Wpop_ow, ↓Wturn_none, ↓Wturn_some, ↓accO_some, ↓accO_none, ↓res_val, ↓res_pk, ↓slotD_0, ↓slotD_s, W1_some, WJ_some, W1_none, WJ_none, Wf_fz, Wf_lst, Wf_dct, Wf_obj, Wb_bl, Wi_int, Wif_true, Wif_false, Wv_fz, Wv_ow, Wv_owd, Wv_owo, Wsem_ok, setR_fz, setR_fr, Wrv_some, Wpk_some, Wunp_fz, Wunps_lst, WisL_lst, Wapp_ow, Wapp_io, Wseti_ow, Wseti_io, Wretv_fz, Wretv_ow, Wpop_io, Wpop_ow, accO_some, accO_none, Int.reduceLT, Int.reduceLE, Nat.reduceLT, Nat.reduceLeDiff, Int.reduceToNat, Int.reduceAdd, Int.reduceSub, Int.reduceMul, Int.reduceNeg, decide_true, decide_false, Bool.or_true, Bool.true_or, Bool.or_false, Bool.false_or, Bool.and_true, Bool.true_and, Bool.and_false, Bool.false_and, Bool.not_true, Bool.not_false, and_true, true_and, Option.map_some, Option.map_none, Option.bind_some, Option.bind_none, List.set_cons_zero, List.set_cons_succ, k1_len_str, k1_len_tup, k1_len_lst, k1_len_frl, k1_abs, k1_neg, k1_int, k1_intb, k1_tuple_lst, k1_tuple_tup, k1_list_lst, k1_list_tup, k1_rev, k1_isN, k1_notN, k2_add, k2_add_str, k2_add_lst, k2_sub, k1_isT, k1_notT, k2_mul, k2_muls, k2_fdiv, k2_mod, k2_pow6, k2_pow18, k2_pow12, k2_lt, k2_le, k2_gt, k2_ge, k2_eq, k2_ne, k2_in, k2_notin, k2_idx, idx_0, idx_1, idx_2, idx_3, idt_0, idt_1, idt_2, idt_3, k2_max, slc_str, slc_lst, slc_frl, seq_lst, seq_tup, seq_str, turnE_nx, turnE_ct, turnE_rt, turnE_bk, wipeD, backW, freeT_nil, freeT_cons, freeT1_none, freeT1_fz, freeT1_fzs, lockI, lockD_n, lockD_s, openD_n, openD_s, bindT_1, bindT_2, bindM, size_le, List.foldl_cons, List.foldl_nil, List.all_cons, List.all_nil, List.getElem?_cons_zero, List.getElem?_cons_succ, Option.join_some, Option.join_none, List.zip_cons_cons, List.zip_nil_left, List.length_cons, List.length_nil, List.length_append, Nat.reduceAdd, Nat.reduceEqDiff, Bool.false_eq_true, if_true, if_false, ↓reduceIte, ite_true, ite_false, ki_int_int, ki_int_str, ki_int_bool, ki_int_list, ki_int_tuple, ki_int_dict, ki_bl_int, ki_bl_str, ki_bl_bool, ki_bl_list, ki_bl_tuple, ki_bl_dict, ki_str_int, ki_str_str, ki_str_bool, ki_str_list, ki_str_tuple, ki_str_dict, ki_lst_int, ki_lst_str, ki_lst_bool, ki_lst_list, ki_lst_tuple, ki_lst_dict, ki_frl_int, ki_frl_str, ki_frl_bool, ki_frl_list, ki_frl_tuple, ki_frl_dict, ki_tup_int, ki_tup_str, ki_tup_bool, ki_tup_list, ki_tup_tuple, ki_tup_dict, ki_dct_int, ki_dct_str, ki_dct_bool, ki_dct_list, ki_dct_tuple, ki_dct_dict, ki_non_int, ki_non_str, ki_non_bool, ki_non_list, ki_non_tuple, ki_non_dict, kis_nil, kis_t, kis_f, Z.argsOf, Z.argOf, Z.backTo, Z.outsOf, List.any_nil, List.any_cons, Tis_variable_1_0, hs.size]
    refine ⟨fun h1 => ?_, fun h1 => ?_⟩
    · refine ⟨fun h2 => ?_, fun h2 => ?_⟩
      · cases s with
        | nil => rfl
        | cons c s =>
          have h2 : ¬ (c :: s).length ≤ 10 := by simp only [Bool.not_eq_true', decide_eq_false_iff_not] at h2; omega
          simp only [varB, wordLike, h2, decide_false, Bool.false_and]
      · cases s with
        | nil => simp at h1
        | cons c s =>
          have h2 : (c :: s).length ≤ 10 := by simp only [Bool.not_eq_false', decide_eq_true_eq] at h2; omega
          have hz : s.length + 1 ≤ sizeL := hs.size
          have ht : Ok s := hs.drop 1
          simp only [↓We_var, ↓We_int, ↓We_str, ↓We_bl, ↓We_non, ↓We_gl, ↓We_dspc, ↓We_fs, ↓We_tup, ↓We_lst, ↓We_op1, ↓We_op2, ↓We_sm1, ↓We_slc, ↓We_isi, ↓We_and, ↓We_or, ↓We_one, ↓We_not, ↓We_ife, ↓We_chn, ↓We_pop, ↓We_call, ↓We_callk, ↓We_comp, ↓Wr_var, ↓Wr_int, ↓Wr_str, ↓Wr_bl, ↓Wr_non, ↓Wr_gl, ↓Wr_dspc, ↓Wr_fs, ↓Wr_tup, ↓Wr_lst, ↓Wr_op1, ↓Wr_op2, ↓Wr_sm1, ↓Wr_slc, ↓Wr_isi, ↓Wr_and, ↓Wr_or, ↓Wr_not, ↓Wr_ife, ↓Wr_chn, ↓Wr_pop, ↓Wr_call, ↓Wr_callk, ↓Wr_comp, ↓Ws_set, ↓Ws_unp, ↓Ws_unps, ↓Ws_app, ↓Ws_seti, ↓Ws_setf, ↓Ws_expr, ↓Ws_ife, ↓Ws_for, ↓Ws_while, ↓Ws_ret, ↓Ws_retv, ↓Ws_retn, ↓Ws_brk, ↓Ws_cont, ↓Ws_pass, ↓Wss_cons, ↓Wss_nil, ↓Wes_nil, ↓Wes_cons, ↓Wo_none, ↓Wo_some, ↓Was_nil, ↓Was_ev, ↓Was_pk, ↓Wcall_def, catA_nil, catA_cons, ↓Wsrc_seq, ↓Wsrc_rng1, ↓Wsrc_rng2, ↓Wsrc_zip, ↓seq_nx, ↓seq_rt, ↓seq_bk, ↓seq_ct, ↓seq_ex, ↓W1_some, ↓WJ_some, ↓W1_none, ↓WJ_none, ↓Wf_fz, ↓Wf_lst, ↓Wf_dct, ↓Wf_obj, ↓Wb_bl, ↓Wi_int, ↓Wif_true, ↓Wif_false, ↓Wv_fz, ↓Wv_ow, ↓Wv_owd, ↓Wv_owo, ↓Wsem_ok, ↓setR_fz, ↓setR_fr, ↓Wrv_some, ↓Wpk_some, ↓Wunp_fz, ↓Wunps_lst, ↓WisL_lst, ↓Wapp_ow, ↓Wapp_io, ↓Wseti_ow, ↓Wseti_io, ↓Wretv_fz, ↓Wretv_ow, ↓Wpop_io, ↓Wpop_ow, ↓Wturn_none, ↓Wturn_some, ↓accO_some, ↓accO_none, ↓res_val, ↓res_pk, ↓slotD_0, ↓slotD_s, W1_some, WJ_some, W1_none, WJ_none, Wf_fz, Wf_lst, Wf_dct, Wf_obj, Wb_bl, Wi_int, Wif_true, Wif_false, Wv_fz, Wv_ow, Wv_owd, Wv_owo, Wsem_ok, setR_fz, setR_fr, Wrv_some, Wpk_some, Wunp_fz, Wunps_lst, WisL_lst, Wapp_ow, Wapp_io, Wseti_ow, Wseti_io, Wretv_fz, Wretv_ow, Wpop_io, Wpop_ow, accO_some, accO_none, Int.reduceLT, Int.reduceLE, Nat.reduceLT, Nat.reduceLeDiff, Int.reduceToNat, Int.reduceAdd, Int.reduceSub, Int.reduceMul, Int.reduceNeg, decide_true, decide_false, Bool.or_true, Bool.true_or, Bool.or_false, Bool.false_or, Bool.and_true, Bool.true_and, Bool.and_false, Bool.false_and, Bool.not_true, Bool.not_false, and_true, true_and, Option.map_some, Option.map_none, Option.bind_some, Option.bind_none, List.set_cons_zero, List.set_cons_succ, k1_len_str, k1_len_tup, k1_len_lst, k1_len_frl, k1_abs, k1_neg, k1_int, k1_intb, k1_tuple_lst, k1_tuple_tup, k1_list_lst, k1_list_tup, k1_rev, k1_isN, k1_notN, k2_add, k2_add_str, k2_add_lst, k2_sub, k1_isT, k1_notT, k2_mul, k2_muls, k2_fdiv, k2_mod, k2_pow6, k2_pow18, k2_pow12, k2_lt, k2_le, k2_gt, k2_ge, k2_eq, k2_ne, k2_in, k2_notin, k2_idx, idx_0, idx_1, idx_2, idx_3, idt_0, idt_1, idt_2, idt_3, k2_max, slc_str, slc_lst, slc_frl, seq_lst, seq_tup, seq_str, turnE_nx, turnE_ct, turnE_rt, turnE_bk, wipeD, backW, freeT_nil, freeT_cons, freeT1_none, freeT1_fz, freeT1_fzs, lockI, lockD_n, lockD_s, openD_n, openD_s, bindT_1, bindT_2, bindM, size_le, List.foldl_cons, List.foldl_nil, List.all_cons, List.all_nil, List.getElem?_cons_zero, List.getElem?_cons_succ, Option.join_some, Option.join_none, List.zip_cons_cons, List.zip_nil_left, List.length_cons, List.length_nil, List.length_append, Nat.reduceAdd, Nat.reduceEqDiff, Bool.false_eq_true, if_true, if_false, ↓reduceIte, ite_true, ite_false, ki_int_int, ki_int_str, ki_int_bool, ki_int_list, ki_int_tuple, ki_int_dict, ki_bl_int, ki_bl_str, ki_bl_bool, ki_bl_list, ki_bl_tuple, ki_bl_dict, ki_str_int, ki_str_str, ki_str_bool, ki_str_list, ki_str_tuple, ki_str_dict, ki_lst_int, ki_lst_str, ki_lst_bool, ki_lst_list, ki_lst_tuple, ki_lst_dict, ki_frl_int, ki_frl_str, ki_frl_bool, ki_frl_list, ki_frl_tuple, ki_frl_dict, ki_tup_int, ki_tup_str, ki_tup_bool, ki_tup_list, ki_tup_tuple, ki_tup_dict, ki_dct_int, ki_dct_str, ki_dct_bool, ki_dct_list, ki_dct_tuple, ki_dct_dict, ki_non_int, ki_non_str, ki_non_bool, ki_non_list, ki_non_tuple, ki_non_dict, kis_nil, kis_t, kis_f, Z.argsOf, Z.argOf, Z.backTo, Z.outsOf, List.any_nil, List.any_cons, Tis_variable_0_1, str_0 hs.size, inD_str, hz, cut1, has_only_ok ht]
          refine ⟨fun h3 => ?_, fun h3 => ?_⟩
          · rw [varB, wordLike, decide_eq_true h2, h3]
            rfl
          · rw [varB, wordLike, decide_eq_true h2, h3]
            rfl
    · cases s with
      | nil => rfl
      | cons c s => simp at h1; omega
  · simp only [↓We_var, ↓We_int, ↓We_str, ↓We_bl, ↓We_non, ↓We_gl, ↓We_dspc, ↓We_fs, ↓We_tup, ↓We_lst, ↓We_op1, ↓We_op2, ↓We_sm1, ↓We_slc, ↓We_isi, ↓We_and, ↓We_or, ↓We_one, ↓We_not, ↓We_ife, ↓We_chn, ↓We_pop, ↓We_call, ↓We_callk, ↓We_comp, ↓Wr_var, ↓Wr_int, ↓Wr_str, ↓Wr_bl, ↓Wr_non, ↓Wr_gl, ↓Wr_dspc, ↓Wr_fs, ↓Wr_tup, ↓Wr_lst, ↓Wr_op1, ↓Wr_op2, ↓Wr_sm1, ↓Wr_slc, ↓Wr_isi, ↓Wr_and, ↓Wr_or, ↓Wr_not, ↓Wr_ife, ↓Wr_chn, ↓Wr_pop, ↓Wr_call, ↓Wr_callk, ↓Wr_comp, ↓Ws_set, ↓Ws_unp, ↓Ws_unps, ↓Ws_app, ↓Ws_seti, ↓Ws_setf, ↓Ws_expr, ↓Ws_ife, ↓Ws_for, ↓Ws_while, ↓Ws_ret, ↓Ws_retv, ↓Ws_retn, ↓Ws_brk, ↓Ws_cont, ↓Ws_pass, ↓Wss_cons, ↓Wss_nil, ↓Wes_nil, ↓Wes_cons, ↓Wo_none, ↓Wo_some, ↓Was_nil, ↓Was_ev, ↓Was_pk, ↓Wcall_def, catA_nil, catA_cons, ↓Wsrc_seq, ↓Wsrc_rng1, ↓Wsrc_rng2, ↓Wsrc_zip, ↓seq_nx, ↓seq_rt, ↓seq_bk, ↓seq_ct, ↓seq_ex, ↓W1_some, ↓WJ_some, ↓W1_none, ↓WJ_none, ↓Wf_fz, ↓Wf_lst, ↓Wf_dct, ↓Wf_obj, ↓Wb_bl, ↓Wi_int, ↓Wif_true, ↓Wif_false, ↓Wv_fz, ↓Wv_ow, ↓Wv_owd, ↓Wv_owo, ↓Wsem_ok, ↓setR_fz, ↓setR_fr, ↓Wrv_some, ↓Wpk_some, ↓Wunp_fz, ↓Wunps_lst, ↓WisL_lst, ↓Wapp_ow, ↓Wapp_io, ↓Wseti_ow, ↓Wseti_io, ↓Wretv_fz, ↓Wretv_ow, ↓Wpop_io, ↓Wpop_ow, ↓Wturn_none, ↓Wturn_some, ↓accO_some, ↓accO_none, ↓res_val, ↓res_pk, ↓slotD_0, ↓slotD_s, W1_some, WJ_some, W1_none, WJ_none, Wf_fz, Wf_lst, Wf_dct, Wf_obj, Wb_bl, Wi_int, Wif_true, Wif_false, Wv_fz, Wv_ow, Wv_owd, Wv_owo, Wsem_ok, setR_fz, setR_fr, Wrv_some, Wpk_some, Wunp_fz, Wunps_lst, WisL_lst, Wapp_ow, Wapp_io, Wseti_ow, Wseti_io, Wretv_fz, Wretv_ow, Wpop_io, Wpop_ow, accO_some, accO_none, Int.reduceLT, Int.reduceLE, Nat.reduceLT, Nat.reduceLeDiff, Int.reduceToNat, Int.reduceAdd, Int.reduceSub, Int.reduceMul, Int.reduceNeg, decide_true, decide_false, Bool.or_true, Bool.true_or, Bool.or_false, Bool.false_or, Bool.and_true, Bool.true_and, Bool.and_false, Bool.false_and, Bool.not_true, Bool.not_false, and_true, true_and, Option.map_some, Option.map_none, Option.bind_some, Option.bind_none, List.set_cons_zero, List.set_cons_succ, k1_len_str, k1_len_tup, k1_len_lst, k1_len_frl, k1_abs, k1_neg, k1_int, k1_intb, k1_tuple_lst, k1_tuple_tup, k1_list_lst, k1_list_tup, k1_rev, k1_isN, k1_notN, k2_add, k2_add_str, k2_add_lst, k2_sub, k1_isT, k1_notT, k2_mul, k2_muls, k2_fdiv, k2_mod, k2_pow6, k2_pow18, k2_pow12, k2_lt, k2_le, k2_gt, k2_ge, k2_eq, k2_ne, k2_in, k2_notin, k2_idx, idx_0, idx_1, idx_2, idx_3, idt_0, idt_1, idt_2, idt_3, k2_max, slc_str, slc_lst, slc_frl, seq_lst, seq_tup, seq_str, turnE_nx, turnE_ct, turnE_rt, turnE_bk, wipeD, backW, freeT_nil, freeT_cons, freeT1_none, freeT1_fz, freeT1_fzs, lockI, lockD_n, lockD_s, openD_n, openD_s, bindT_1, bindT_2, bindM, size_le, List.foldl_cons, List.foldl_nil, List.all_cons, List.all_nil, List.getElem?_cons_zero, List.getElem?_cons_succ, Option.join_some, Option.join_none, List.zip_cons_cons, List.zip_nil_left, List.length_cons, List.length_nil, List.length_append, Nat.reduceAdd, Nat.reduceEqDiff, Bool.false_eq_true, if_true, if_false, ↓reduceIte, ite_true, ite_false, ki_int_int, ki_int_str, ki_int_bool, ki_int_list, ki_int_tuple, ki_int_dict, ki_bl_int, ki_bl_str, ki_bl_bool, ki_bl_list, ki_bl_tuple, ki_bl_dict, ki_str_int, ki_str_str, ki_str_bool, ki_str_list, ki_str_tuple, ki_str_dict, ki_lst_int, ki_lst_str, ki_lst_bool, ki_lst_list, ki_lst_tuple, ki_lst_dict, ki_frl_int, ki_frl_str, ki_frl_bool, ki_frl_list, ki_frl_tuple, ki_frl_dict, ki_tup_int, ki_tup_str, ki_tup_bool, ki_tup_list, ki_tup_tuple, ki_tup_dict, ki_dct_int, ki_dct_str, ki_dct_bool, ki_dct_list, ki_dct_tuple, ki_dct_dict, ki_non_int, ki_non_str, ki_non_bool, ki_non_list, ki_non_tuple, ki_non_dict, kis_nil, kis_t, kis_f, Z.argsOf, Z.argOf, Z.backTo, Z.outsOf, List.any_nil, List.any_cons, Tis_variable_1_0, varB]
  · simp only [↓We_var, ↓We_int, ↓We_str, ↓We_bl, ↓We_non, ↓We_gl, ↓We_dspc, ↓We_fs, ↓We_tup, ↓We_lst, ↓We_op1, ↓We_op2, ↓We_sm1, ↓We_slc, ↓We_isi, ↓We_and, ↓We_or, ↓We_one, ↓We_not, ↓We_ife, ↓We_chn, ↓We_pop, ↓We_call, ↓We_callk, ↓We_comp, ↓Wr_var, ↓Wr_int, ↓Wr_str, ↓Wr_bl, ↓Wr_non, ↓Wr_gl, ↓Wr_dspc, ↓Wr_fs, ↓Wr_tup, ↓Wr_lst, ↓Wr_op1, ↓Wr_op2, ↓Wr_sm1, ↓Wr_slc, ↓Wr_isi, ↓Wr_and, ↓Wr_or, ↓Wr_not, ↓Wr_ife, ↓Wr_chn, ↓Wr_pop, ↓Wr_call, ↓Wr_callk, ↓Wr_comp, ↓Ws_set, ↓Ws_unp, ↓Ws_unps, ↓Ws_app, ↓Ws_seti, ↓Ws_setf, ↓Ws_expr, ↓Ws_ife, ↓Ws_for, ↓Ws_while, ↓Ws_ret, ↓Ws_retv, ↓Ws_retn, ↓Ws_brk, ↓Ws_cont, ↓Ws_pass, ↓Wss_cons, ↓Wss_nil, ↓Wes_nil, ↓Wes_cons, ↓Wo_none, ↓Wo_some, ↓Was_nil, ↓Was_ev, ↓Was_pk, ↓Wcall_def, catA_nil, catA_cons, ↓Wsrc_seq, ↓Wsrc_rng1, ↓Wsrc_rng2, ↓Wsrc_zip, ↓seq_nx, ↓seq_rt, ↓seq_bk, ↓seq_ct, ↓seq_ex, ↓W1_some, ↓WJ_some, ↓W1_none, ↓WJ_none, ↓Wf_fz, ↓Wf_lst, ↓Wf_dct, ↓Wf_obj, ↓Wb_bl, ↓Wi_int, ↓Wif_true, ↓Wif_false, ↓Wv_fz, ↓Wv_ow, ↓Wv_owd, ↓Wv_owo, ↓Wsem_ok, ↓setR_fz, ↓setR_fr, ↓Wrv_some, ↓Wpk_some, ↓Wunp_fz, ↓Wunps_lst, ↓WisL_lst, ↓Wapp_ow, ↓Wapp_io, ↓Wseti_ow, ↓Wseti_io, ↓Wretv_fz, ↓Wretv_ow, ↓Wpop_io, ↓Wpop_ow, ↓Wturn_none, ↓Wturn_some, ↓accO_some, ↓accO_none, ↓res_val, ↓res_pk, ↓slotD_0, ↓slotD_s, W1_some, WJ_some, W1_none, WJ_none, Wf_fz, Wf_lst, Wf_dct, Wf_obj, Wb_bl, Wi_int, Wif_true, Wif_false, Wv_fz, Wv_ow, Wv_owd, Wv_owo, Wsem_ok, setR_fz, setR_fr, Wrv_some, Wpk_some, Wunp_fz, Wunps_lst, WisL_lst, Wapp_ow, Wapp_io, Wseti_ow, Wseti_io, Wretv_fz, Wretv_ow, Wpop_io, Wpop_ow, accO_some, accO_none, Int.reduceLT, Int.reduceLE, Nat.reduceLT, Nat.reduceLeDiff, Int.reduceToNat, Int.reduceAdd, Int.reduceSub, Int.reduceMul, Int.reduceNeg, decide_true, decide_false, Bool.or_true, Bool.true_or, Bool.or_false, Bool.false_or, Bool.and_true, Bool.true_and, Bool.and_false, Bool.false_and, Bool.not_true, Bool.not_false, and_true, true_and, Option.map_some, Option.map_none, Option.bind_some, Option.bind_none, List.set_cons_zero, List.set_cons_succ, k1_len_str, k1_len_tup, k1_len_lst, k1_len_frl, k1_abs, k1_neg, k1_int, k1_intb, k1_tuple_lst, k1_tuple_tup, k1_list_lst, k1_list_tup, k1_rev, k1_isN, k1_notN, k2_add, k2_add_str, k2_add_lst, k2_sub, k1_isT, k1_notT, k2_mul, k2_muls, k2_fdiv, k2_mod, k2_pow6, k2_pow18, k2_pow12, k2_lt, k2_le, k2_gt, k2_ge, k2_eq, k2_ne, k2_in, k2_notin, k2_idx, idx_0, idx_1, idx_2, idx_3, idt_0, idt_1, idt_2, idt_3, k2_max, slc_str, slc_lst, slc_frl, seq_lst, seq_tup, seq_str, turnE_nx, turnE_ct, turnE_rt, turnE_bk, wipeD, backW, freeT_nil, freeT_cons, freeT1_none, freeT1_fz, freeT1_fzs, lockI, lockD_n, lockD_s, openD_n, openD_s, bindT_1, bindT_2, bindM, size_le, List.foldl_cons, List.foldl_nil, List.all_cons, List.all_nil, List.getElem?_cons_zero, List.getElem?_cons_succ, Option.join_some, Option.join_none, List.zip_cons_cons, List.zip_nil_left, List.length_cons, List.length_nil, List.length_append, Nat.reduceAdd, Nat.reduceEqDiff, Bool.false_eq_true, if_true, if_false, ↓reduceIte, ite_true, ite_false, ki_int_int, ki_int_str, ki_int_bool, ki_int_list, ki_int_tuple, ki_int_dict, ki_bl_int, ki_bl_str, ki_bl_bool, ki_bl_list, ki_bl_tuple, ki_bl_dict, ki_str_int, ki_str_str, ki_str_bool, ki_str_list, ki_str_tuple, ki_str_dict, ki_lst_int, ki_lst_str, ki_lst_bool, ki_lst_list, ki_lst_tuple, ki_lst_dict, ki_frl_int, ki_frl_str, ki_frl_bool, ki_frl_list, ki_frl_tuple, ki_frl_dict, ki_tup_int, ki_tup_str, ki_tup_bool, ki_tup_list, ki_tup_tuple, ki_tup_dict, ki_dct_int, ki_dct_str, ki_dct_bool, ki_dct_list, ki_dct_tuple, ki_dct_dict, ki_non_int, ki_non_str, ki_non_bool, ki_non_list, ki_non_tuple, ki_non_dict, kis_nil, kis_t, kis_f, Z.argsOf, Z.argOf, Z.backTo, Z.outsOf, List.any_nil, List.any_cons, Tis_variable_1_0, varB]
  · simp only [↓We_var, ↓We_int, ↓We_str, ↓We_bl, ↓We_non, ↓We_gl, ↓We_dspc, ↓We_fs, ↓We_tup, ↓We_lst, ↓We_op1, ↓We_op2, ↓We_sm1, ↓We_slc, ↓We_isi, ↓We_and, ↓We_or, ↓We_one, ↓We_not, ↓We_ife, ↓We_chn, ↓We_pop, ↓We_call, ↓We_callk, ↓We_comp, ↓Wr_var, ↓Wr_int, ↓Wr_str, ↓Wr_bl, ↓Wr_non, ↓Wr_gl, ↓Wr_dspc, ↓Wr_fs, ↓Wr_tup, ↓Wr_lst, ↓Wr_op1, ↓Wr_op2, ↓Wr_sm1, ↓Wr_slc, ↓Wr_isi, ↓Wr_and, ↓Wr_or, ↓Wr_not, ↓Wr_ife, ↓Wr_chn, ↓Wr_pop, ↓Wr_call, ↓Wr_callk, ↓Wr_comp, ↓Ws_set, ↓Ws_unp, ↓Ws_unps, ↓Ws_app, ↓Ws_seti, ↓Ws_setf, ↓Ws_expr, ↓Ws_ife, ↓Ws_for, ↓Ws_while, ↓Ws_ret, ↓Ws_retv, ↓Ws_retn, ↓Ws_brk, ↓Ws_cont, ↓Ws_pass, ↓Wss_cons, ↓Wss_nil, ↓Wes_nil, ↓Wes_cons, ↓Wo_none, ↓Wo_some, ↓Was_nil, ↓Was_ev, ↓Was_pk, ↓Wcall_def, catA_nil, catA_cons, ↓Wsrc_seq, ↓Wsrc_rng1, ↓Wsrc_rng2, ↓Wsrc_zip, ↓seq_nx, ↓seq_rt, ↓seq_bk, ↓seq_ct, ↓seq_ex, ↓W1_some, ↓WJ_some, ↓W1_none, ↓WJ_none, ↓Wf_fz, ↓Wf_lst, ↓Wf_dct, ↓Wf_obj, ↓Wb_bl, ↓Wi_int, ↓Wif_true, ↓Wif_false, ↓Wv_fz, ↓Wv_ow, ↓Wv_owd, ↓Wv_owo, ↓Wsem_ok, ↓setR_fz, ↓setR_fr, ↓Wrv_some, ↓Wpk_some, ↓Wunp_fz, ↓Wunps_lst, ↓WisL_lst, ↓Wapp_ow, ↓Wapp_io, ↓Wseti_ow, ↓Wseti_io, ↓Wretv_fz, ↓Wretv_ow, ↓Wpop_io, ↓Wpop_ow, ↓Wturn_none, ↓Wturn_some, ↓accO_some, ↓accO_none, ↓res_val, ↓res_pk, ↓slotD_0, ↓slotD_s, W1_some, WJ_some, W1_none, WJ_none, Wf_fz, Wf_lst, Wf_dct, Wf_obj, Wb_bl, Wi_int, Wif_true, Wif_false, Wv_fz, Wv_ow, Wv_owd, Wv_owo, Wsem_ok, setR_fz, setR_fr, Wrv_some, Wpk_some, Wunp_fz, Wunps_lst, WisL_lst, Wapp_ow, Wapp_io, Wseti_ow, Wseti_io, Wretv_fz, Wretv_ow, Wpop_io, Wpop_ow, accO_some, accO_none, Int.reduceLT, Int.reduceLE, Nat.reduceLT, Nat.reduceLeDiff, Int.reduceToNat, Int.reduceAdd, Int.reduceSub, Int.reduceMul, Int.reduceNeg, decide_true, decide_false, Bool.or_true, Bool.true_or, Bool.or_false, Bool.false_or, Bool.and_true, Bool.true_and, Bool.and_false, Bool.false_and, Bool.not_true, Bool.not_false, and_true, true_and, Option.map_some, Option.map_none, Option.bind_some, Option.bind_none, List.set_cons_zero, List.set_cons_succ, k1_len_str, k1_len_tup, k1_len_lst, k1_len_frl, k1_abs, k1_neg, k1_int, k1_intb, k1_tuple_lst, k1_tuple_tup, k1_list_lst, k1_list_tup, k1_rev, k1_isN, k1_notN, k2_add, k2_add_str, k2_add_lst, k2_sub, k1_isT, k1_notT, k2_mul, k2_muls, k2_fdiv, k2_mod, k2_pow6, k2_pow18, k2_pow12, k2_lt, k2_le, k2_gt, k2_ge, k2_eq, k2_ne, k2_in, k2_notin, k2_idx, idx_0, idx_1, idx_2, idx_3, idt_0, idt_1, idt_2, idt_3, k2_max, slc_str, slc_lst, slc_frl, seq_lst, seq_tup, seq_str, turnE_nx, turnE_ct, turnE_rt, turnE_bk, wipeD, backW, freeT_nil, freeT_cons, freeT1_none, freeT1_fz, freeT1_fzs, lockI, lockD_n, lockD_s, openD_n, openD_s, bindT_1, bindT_2, bindM, size_le, List.foldl_cons, List.foldl_nil, List.all_cons, List.all_nil, List.getElem?_cons_zero, List.getElem?_cons_succ, Option.join_some, Option.join_none, List.zip_cons_cons, List.zip_nil_left, List.length_cons, List.length_nil, List.length_append, Nat.reduceAdd, Nat.reduceEqDiff, Bool.false_eq_true, if_true, if_false, ↓reduceIte, ite_true, ite_false, ki_int_int, ki_int_str, ki_int_bool, ki_int_list, ki_int_tuple, ki_int_dict, ki_bl_int, ki_bl_str, ki_bl_bool, ki_bl_list, ki_bl_tuple, ki_bl_dict, ki_str_int, ki_str_str, ki_str_bool, ki_str_list, ki_str_tuple, ki_str_dict, ki_lst_int, ki_lst_str, ki_lst_bool, ki_lst_list, ki_lst_tuple, ki_lst_dict, ki_frl_int, ki_frl_str, ki_frl_bool, ki_frl_list, ki_frl_tuple, ki_frl_dict, ki_tup_int, ki_tup_str, ki_tup_bool, ki_tup_list, ki_tup_tuple, ki_tup_dict, ki_dct_int, ki_dct_str, ki_dct_bool, ki_dct_list, ki_dct_tuple, ki_dct_dict, ki_non_int, ki_non_str, ki_non_bool, ki_non_list, ki_non_tuple, ki_non_dict, kis_nil, kis_t, kis_f, Z.argsOf, Z.argOf, Z.backTo, Z.outsOf, List.any_nil, List.any_cons, Tis_variable_1_0, varB]
  · simp only [↓We_var, ↓We_int, ↓We_str, ↓We_bl, ↓We_non, ↓We_gl, ↓We_dspc, ↓We_fs, ↓We_tup, ↓We_lst, ↓We_op1, ↓We_op2, ↓We_sm1, ↓We_slc, ↓We_isi, ↓We_and, ↓We_or, ↓We_one, ↓We_not, ↓We_ife, ↓We_chn, ↓We_pop, ↓We_call, ↓We_callk, ↓We_comp, ↓Wr_var, ↓Wr_int, ↓Wr_str, ↓Wr_bl, ↓Wr_non, ↓Wr_gl, ↓Wr_dspc, ↓Wr_fs, ↓Wr_tup, ↓Wr_lst, ↓Wr_op1, ↓Wr_op2, ↓Wr_sm1, ↓Wr_slc, ↓Wr_isi, ↓Wr_and, ↓Wr_or, ↓Wr_not, ↓Wr_ife, ↓Wr_chn, ↓Wr_pop, ↓Wr_call, ↓Wr_callk, ↓Wr_comp, ↓Ws_set, ↓Ws_unp, ↓Ws_unps, ↓Ws_app, ↓Ws_seti, ↓Ws_setf, ↓Ws_expr, ↓Ws_ife, ↓Ws_for, ↓Ws_while, ↓Ws_ret, ↓Ws_retv, ↓Ws_retn, ↓Ws_brk, ↓Ws_cont, ↓Ws_pass, ↓Wss_cons, ↓Wss_nil, ↓Wes_nil, ↓Wes_cons, ↓Wo_none, ↓Wo_some, ↓Was_nil, ↓Was_ev, ↓Was_pk, ↓Wcall_def, catA_nil, catA_cons, ↓Wsrc_seq, ↓Wsrc_rng1, ↓Wsrc_rng2, ↓Wsrc_zip, ↓seq_nx, ↓seq_rt, ↓seq_bk, ↓seq_ct, ↓seq_ex, ↓W1_some, ↓WJ_some, ↓W1_none, ↓WJ_none, ↓Wf_fz, ↓Wf_lst, ↓Wf_dct, ↓Wf_obj, ↓Wb_bl, ↓Wi_int, ↓Wif_true, ↓Wif_false, ↓Wv_fz, ↓Wv_ow, ↓Wv_owd, ↓Wv_owo, ↓Wsem_ok, ↓setR_fz, ↓setR_fr, ↓Wrv_some, ↓Wpk_some, ↓Wunp_fz, ↓Wunps_lst, ↓WisL_lst, ↓Wapp_ow, ↓Wapp_io, ↓Wseti_ow, ↓Wseti_io, ↓Wretv_fz, ↓Wretv_ow, ↓Wpop_io, ↓Wpop_ow, ↓Wturn_none, ↓Wturn_some, ↓accO_some, ↓accO_none, ↓res_val, ↓res_pk, ↓slotD_0, ↓slotD_s, W1_some, WJ_some, W1_none, WJ_none, Wf_fz, Wf_lst, Wf_dct, Wf_obj, Wb_bl, Wi_int, Wif_true, Wif_false, Wv_fz, Wv_ow, Wv_owd, Wv_owo, Wsem_ok, setR_fz, setR_fr, Wrv_some, Wpk_some, Wunp_fz, Wunps_lst, WisL_lst, Wapp_ow, Wapp_io, Wseti_ow, Wseti_io, Wretv_fz, Wretv_ow, Wpop_io, Wpop_ow, accO_some, accO_none, Int.reduceLT, Int.reduceLE, Nat.reduceLT, Nat.reduceLeDiff, Int.reduceToNat, Int.reduceAdd, Int.reduceSub, Int.reduceMul, Int.reduceNeg, decide_true, decide_false, Bool.or_true, Bool.true_or, Bool.or_false, Bool.false_or, Bool.and_true, Bool.true_and, Bool.and_false, Bool.false_and, Bool.not_true, Bool.not_false, and_true, true_and, Option.map_some, Option.map_none, Option.bind_some, Option.bind_none, List.set_cons_zero, List.set_cons_succ, k1_len_str, k1_len_tup, k1_len_lst, k1_len_frl, k1_abs, k1_neg, k1_int, k1_intb, k1_tuple_lst, k1_tuple_tup, k1_list_lst, k1_list_tup, k1_rev, k1_isN, k1_notN, k2_add, k2_add_str, k2_add_lst, k2_sub, k1_isT, k1_notT, k2_mul, k2_muls, k2_fdiv, k2_mod, k2_pow6, k2_pow18, k2_pow12, k2_lt, k2_le, k2_gt, k2_ge, k2_eq, k2_ne, k2_in, k2_notin, k2_idx, idx_0, idx_1, idx_2, idx_3, idt_0, idt_1, idt_2, idt_3, k2_max, slc_str, slc_lst, slc_frl, seq_lst, seq_tup, seq_str, turnE_nx, turnE_ct, turnE_rt, turnE_bk, wipeD, backW, freeT_nil, freeT_cons, freeT1_none, freeT1_fz, freeT1_fzs, lockI, lockD_n, lockD_s, openD_n, openD_s, bindT_1, bindT_2, bindM, size_le, List.foldl_cons, List.foldl_nil, List.all_cons, List.all_nil, List.getElem?_cons_zero, List.getElem?_cons_succ, Option.join_some, Option.join_none, List.zip_cons_cons, List.zip_nil_left, List.length_cons, List.length_nil, List.length_append, Nat.reduceAdd, Nat.reduceEqDiff, Bool.false_eq_true, if_true, if_false, ↓reduceIte, ite_true, ite_false, ki_int_int, ki_int_str, ki_int_bool, ki_int_list, ki_int_tuple, ki_int_dict, ki_bl_int, ki_bl_str, ki_bl_bool, ki_bl_list, ki_bl_tuple, ki_bl_dict, ki_str_int, ki_str_str, ki_str_bool, ki_str_list, ki_str_tuple, ki_str_dict, ki_lst_int, ki_lst_str, ki_lst_bool, ki_lst_list, ki_lst_tuple, ki_lst_dict, ki_frl_int, ki_frl_str, ki_frl_bool, ki_frl_list, ki_frl_tuple, ki_frl_dict, ki_tup_int, ki_tup_str, ki_tup_bool, ki_tup_list, ki_tup_tuple, ki_tup_dict, ki_dct_int, ki_dct_str, ki_dct_bool, ki_dct_list, ki_dct_tuple, ki_dct_dict, ki_non_int, ki_non_str, ki_non_bool, ki_non_list, ki_non_tuple, ki_non_dict, kis_nil, kis_t, kis_f, Z.argsOf, Z.argOf, Z.backTo, Z.outsOf, List.any_nil, List.any_cons, Tis_variable_1_0, varB]
def wordB (s : List Nat) : Bool := wordLike 12 SML (SML ++ DIG) s && !decide (s = [110, 111, 116])
theorem is_word_ok {s : List Nat} (hs : Ok s) : Fis_word.sem [(.fz, .str s)] = .ok (.fz (.bl (wordB s))) [.str s] := by
  rw [Fis_word_sem]; refine runF_eq (np := 1) rfl ?_; simp only [List.map_cons, List.map_nil, List.replicate, Nat.reduceSub, List.replicate_zero, List.cons_append, List.nil_append, Bis_word, Tis_word_0_0]
  simp only [↓We_var, ↓We_int, ↓We_str, ↓We_bl, ↓We_non, ↓We_gl, ↓We_dspc, ↓We_fs, ↓We_tup, ↓We_lst, ↓We_op1, ↓We_op2, ↓We_sm1, ↓We_slc, ↓We_isi, ↓We_and, ↓We_or, ↓We_one, ↓We_not, ↓We_ife, ↓We_chn, ↓We_pop, ↓We_call, ↓We_callk, ↓We_comp, ↓Wr_var, ↓Wr_int, ↓Wr_str, ↓Wr_bl, ↓Wr_non, ↓Wr_gl, ↓Wr_dspc, ↓Wr_fs, ↓Wr_tup, ↓Wr_lst, ↓Wr_op1, ↓Wr_op2, ↓Wr_sm1, ↓Wr_slc, ↓Wr_isi, ↓Wr_and, ↓Wr_or, ↓Wr_not, ↓Wr_ife, ↓Wr_chn, ↓Wr_pop, ↓Wr_call, ↓Wr_callk, ↓Wr_comp, ↓Ws_set, ↓Ws_unp, ↓Ws_unps, ↓Ws_app, ↓Ws_seti, ↓Ws_setf, ↓Ws_expr, ↓Ws_ife, ↓Ws_for, ↓Ws_while, ↓Ws_ret, ↓Ws_retv, ↓Ws_retn, ↓Ws_brk, ↓Ws_cont, ↓Ws_pass, ↓Wss_cons, ↓Wss_nil, ↓Wes_nil, ↓Wes_cons, ↓Wo_none, ↓Wo_some, ↓Was_nil, ↓Was_ev, ↓Was_pk, ↓Wcall_def, catA_nil, catA_cons, ↓Wsrc_seq, ↓Wsrc_rng1, ↓Wsrc_rng2, ↓Wsrc_zip, ↓seq_nx, ↓seq_rt, ↓seq_bk, ↓seq_ct, ↓seq_ex, ↓W1_some, ↓WJ_some, ↓W1_none, ↓WJ_none, ↓Wf_fz, ↓Wf_lst, ↓Wf_dct, ↓Wf_obj, ↓Wb_bl, ↓Wi_int, ↓Wif_true, ↓Wif_false, ↓Wv_fz, ↓Wv_ow, ↓Wv_owd, ↓Wv_owo, ↓Wsem_ok, ↓setR_fz, ↓setR_fr, ↓Wrv_some, ↓Wpk_some, ↓Wunp_fz, ↓Wunps_lst, ↓WisL_lst, ↓Wapp_ow, ↓Wapp_io, ↓Wseti_ow, ↓Wseti_io, ↓Wretv_fz, ↓Wretv_ow, ↓Wpop_io, ↓Wpop_ow, ↓Wturn_none, ↓Wturn_some, ↓accO_some, ↓accO_none, ↓res_val, ↓res_pk, ↓slotD_0, ↓slotD_s, W1_some, WJ_some, W1_none, WJ_none, Wf_fz, Wf_lst, Wf_dct, Wf_obj, Wb_bl, Wi_int, Wif_true, Wif_false, Wv_fz, Wv_ow, Wv_owd, Wv_owo, Wsem_ok, setR_fz, setR_fr, Wrv_some, Wpk_some, Wunp_fz, Wunps_lst, WisL_lst, Wapp_ow, Wapp_io, Wseti_ow, Wseti_io, Wretv_fz, Wretv_ow, Wpop_io, Wpop_ow, accO_some, accO_none, Int.reduceLT, Int.reduceLE, Nat.reduceLT, Nat.reduceLeDiff, Int.reduceToNat, Int.reduceAdd, Int.reduceSub, Int.reduceMul, Int.reduceNeg, decide_true, decide_false, Bool.or_true, Bool.true_or, Bool.or_false, Bool.false_or, Bool.and_true, Bool.true_and, Bool.and_false, Bool.false_and, Bool.not_true, Bool.not_false, and_true, true_and, Option.map_some, Option.map_none, Option.bind_some, Option.bind_none, List.set_cons_zero, List.set_cons_succ, k1_len_str, k1_len_tup, k1_len_lst, k1_len_frl, k1_abs, k1_neg, k1_int, k1_intb, k1_tuple_lst, k1_tuple_tup, k1_list_lst, k1_list_tup, k1_rev, k1_isN, k1_notN, k2_add, k2_add_str, k2_add_lst, k2_sub, k1_isT, k1_notT, k2_mul, k2_muls, k2_fdiv, k2_mod, k2_pow6, k2_pow18, k2_pow12, k2_lt, k2_le, k2_gt, k2_ge, k2_eq, k2_ne, k2_in, k2_notin, k2_idx, idx_0, idx_1, idx_2, idx_3, idt_0, idt_1, idt_2, idt_3, k2_max, slc_str, slc_lst, slc_frl, seq_lst, seq_tup, seq_str, turnE_nx, turnE_ct, turnE_rt, turnE_bk, wipeD, backW, freeT_nil, freeT_cons, freeT1_none, freeT1_fz, freeT1_fzs, lockI, lockD_n, lockD_s, openD_n, openD_s, bindT_1, bindT_2, bindM, size_le, List.foldl_cons, List.foldl_nil, List.all_cons, List.all_nil, List.getElem?_cons_zero, List.getElem?_cons_succ, Option.join_some, Option.join_none, List.zip_cons_cons, List.zip_nil_left, List.length_cons, List.length_nil, List.length_append, Nat.reduceAdd, Nat.reduceEqDiff, Bool.false_eq_true, if_true, if_false, ↓reduceIte, ite_true, ite_false, ki_int_int, ki_int_str, ki_int_bool, ki_int_list, ki_int_tuple, ki_int_dict, ki_bl_int, ki_bl_str, ki_bl_bool, ki_bl_list, ki_bl_tuple, ki_bl_dict, ki_str_int, ki_str_str, ki_str_bool, ki_str_list, ki_str_tuple, ki_str_dict, ki_lst_int, ki_lst_str, ki_lst_bool, ki_lst_list, ki_lst_tuple, ki_lst_dict, ki_frl_int, ki_frl_str, ki_frl_bool, ki_frl_list, ki_frl_tuple, ki_frl_dict, ki_tup_int, ki_tup_str, ki_tup_bool, ki_tup_list, ki_tup_tuple, ki_tup_dict, ki_dct_int, ki_dct_str, ki_dct_bool, ki_dct_list, ki_dct_tuple, ki_dct_dict, ki_non_int, ki_non_str, ki_non_bool, ki_non_list, ki_non_tuple, ki_non_dict, kis_nil, kis_t, kis_f, Z.argsOf, Z.argOf, Z.backTo, Z.outsOf, List.any_nil, List.any_cons, Tis_word_1_0, hs.size]
  refine ⟨fun h1 => ?_, fun h1 => ?_⟩
  · refine ⟨fun h2 => ?_, fun h2 => ?_⟩
    · cases s with
      | nil => rfl
      | cons c s =>
        have h2 : ¬ (c :: s).length ≤ 12 := by simp only [Bool.not_eq_true', decide_eq_false_iff_not] at h2; omega
        simp only [wordB, wordLike, h2, decide_false, Bool.false_and]
    · simp only [↓We_var, ↓We_int, ↓We_str, ↓We_bl, ↓We_non, ↓We_gl, ↓We_dspc, ↓We_fs, ↓We_tup, ↓We_lst, ↓We_op1, ↓We_op2, ↓We_sm1, ↓We_slc, ↓We_isi, ↓We_and, ↓We_or, ↓We_one, ↓We_not, ↓We_ife, ↓We_chn, ↓We_pop, ↓We_call, ↓We_callk, ↓We_comp, ↓Wr_var, ↓Wr_int, ↓Wr_str, ↓Wr_bl, ↓Wr_non, ↓Wr_gl, ↓Wr_dspc, ↓Wr_fs, ↓Wr_tup, ↓Wr_lst, ↓Wr_op1, ↓Wr_op2, ↓Wr_sm1, ↓Wr_slc, ↓Wr_isi, ↓Wr_and, ↓Wr_or, ↓Wr_not, ↓Wr_ife, ↓Wr_chn, ↓Wr_pop, ↓Wr_call, ↓Wr_callk, ↓Wr_comp, ↓Ws_set, ↓Ws_unp, ↓Ws_unps, ↓Ws_app, ↓Ws_seti, ↓Ws_setf, ↓Ws_expr, ↓Ws_ife, ↓Ws_for, ↓Ws_while, ↓Ws_ret, ↓Ws_retv, ↓Ws_retn, ↓Ws_brk, ↓Ws_cont, ↓Ws_pass, ↓Wss_cons, ↓Wss_nil, ↓Wes_nil, ↓Wes_cons, ↓Wo_none, ↓Wo_some, ↓Was_nil, ↓Was_ev, ↓Was_pk, ↓Wcall_def, catA_nil, catA_cons, ↓Wsrc_seq, ↓Wsrc_rng1, ↓Wsrc_rng2, ↓Wsrc_zip, ↓seq_nx, ↓seq_rt, ↓seq_bk, ↓seq_ct, ↓seq_ex, ↓W1_some, ↓WJ_some, ↓W1_none, ↓WJ_none, ↓Wf_fz, ↓Wf_lst, ↓Wf_dct, ↓Wf_obj, ↓Wb_bl, ↓Wi_int, ↓Wif_true, ↓Wif_false, ↓Wv_fz, ↓Wv_ow, ↓Wv_owd, ↓Wv_owo, ↓Wsem_ok, ↓setR_fz, ↓setR_fr, ↓Wrv_some, ↓Wpk_some, ↓Wunp_fz, ↓Wunps_lst, ↓WisL_lst, ↓Wapp_ow, ↓Wapp_io, ↓Wseti_ow, ↓Wseti_io, ↓Wretv_fz, ↓Wretv_ow, ↓Wpop_io, ↓Wpop_ow, ↓Wturn_none, ↓Wturn_some, ↓accO_some, ↓accO_none, ↓res_val, ↓res_pk, ↓slotD_0, ↓slotD_s, W1_some, WJ_some, W1_none, WJ_none, Wf_fz, Wf_lst, Wf_dct, Wf_obj, Wb_bl, Wi_int, Wif_true, Wif_false, Wv_fz, Wv_ow, Wv_owd, Wv_owo, Wsem_ok, setR_fz, setR_fr, Wrv_some, Wpk_some, Wunp_fz, Wunps_lst, WisL_lst, Wapp_ow, Wapp_io, Wseti_ow, Wseti_io, Wretv_fz, Wretv_ow, Wpop_io, Wpop_ow, accO_some, accO_none, Int.reduceLT, Int.reduceLE, Nat.reduceLT, Nat.reduceLeDiff, Int.reduceToNat, Int.reduceAdd, Int.reduceSub, Int.reduceMul, Int.reduceNeg, decide_true, decide_false, Bool.or_true, Bool.true_or, Bool.or_false, Bool.false_or, Bool.and_true, Bool.true_and, Bool.and_false, Bool.false_and, Bool.not_true, Bool.not_false, and_true, true_and, Option.map_some, Option.map_none, Option.bind_some, Option.bind_none, List.set_cons_zero, List.set_cons_succ, k1_len_str, k1_len_tup, k1_len_lst, k1_len_frl, k1_abs, k1_neg, k1_int, k1_intb, k1_tuple_lst, k1_tuple_tup, k1_list_lst, k1_list_tup, k1_rev, k1_isN, k1_notN, k2_add, k2_add_str, k2_add_lst, k2_sub, k1_isT, k1_notT, k2_mul, k2_muls, k2_fdiv, k2_mod, k2_pow6, k2_pow18, k2_pow12, k2_lt, k2_le, k2_gt, k2_ge, k2_eq, k2_ne, k2_in, k2_notin, k2_idx, idx_0, idx_1, idx_2, idx_3, idt_0, idt_1, idt_2, idt_3, k2_max, slc_str, slc_lst, slc_frl, seq_lst, seq_tup, seq_str, turnE_nx, turnE_ct, turnE_rt, turnE_bk, wipeD, backW, freeT_nil, freeT_cons, freeT1_none, freeT1_fz, freeT1_fzs, lockI, lockD_n, lockD_s, openD_n, openD_s, bindT_1, bindT_2, bindM, size_le, List.foldl_cons, List.foldl_nil, List.all_cons, List.all_nil, List.getElem?_cons_zero, List.getElem?_cons_succ, Option.join_some, Option.join_none, List.zip_cons_cons, List.zip_nil_left, List.length_cons, List.length_nil, List.length_append, Nat.reduceAdd, Nat.reduceEqDiff, Bool.false_eq_true, if_true, if_false, ↓reduceIte, ite_true, ite_false, ki_int_int, ki_int_str, ki_int_bool, ki_int_list, ki_int_tuple, ki_int_dict, ki_bl_int, ki_bl_str, ki_bl_bool, ki_bl_list, ki_bl_tuple, ki_bl_dict, ki_str_int, ki_str_str, ki_str_bool, ki_str_list, ki_str_tuple, ki_str_dict, ki_lst_int, ki_lst_str, ki_lst_bool, ki_lst_list, ki_lst_tuple, ki_lst_dict, ki_frl_int, ki_frl_str, ki_frl_bool, ki_frl_list, ki_frl_tuple, ki_frl_dict, ki_tup_int, ki_tup_str, ki_tup_bool, ki_tup_list, ki_tup_tuple, ki_tup_dict, ki_dct_int, ki_dct_str, ki_dct_bool, ki_dct_list, ki_dct_tuple, ki_dct_dict, ki_non_int, ki_non_str, ki_non_bool, ki_non_list, ki_non_tuple, ki_non_dict, kis_nil, kis_t, kis_f, Z.argsOf, Z.argOf, Z.backTo, Z.outsOf, List.any_nil, List.any_cons, eqD_str hs.1 (show ∀ c ∈ [110, 111, 116], c < 1114112 by simp)]
      refine ⟨fun h3 => ?_, fun h3 => ?_⟩
      · simp only [wordB, h3, Bool.not_true, Bool.and_false]
      · cases s with
        | nil => simp at h1
        | cons c s =>
          have h2 : (c :: s).length ≤ 12 := by simp only [Bool.not_eq_false', decide_eq_true_eq] at h2; omega
          have hz : s.length + 1 ≤ sizeL := hs.size
          have ht : Ok s := hs.drop 1
          simp only [↓We_var, ↓We_int, ↓We_str, ↓We_bl, ↓We_non, ↓We_gl, ↓We_dspc, ↓We_fs, ↓We_tup, ↓We_lst, ↓We_op1, ↓We_op2, ↓We_sm1, ↓We_slc, ↓We_isi, ↓We_and, ↓We_or, ↓We_one, ↓We_not, ↓We_ife, ↓We_chn, ↓We_pop, ↓We_call, ↓We_callk, ↓We_comp, ↓Wr_var, ↓Wr_int, ↓Wr_str, ↓Wr_bl, ↓Wr_non, ↓Wr_gl, ↓Wr_dspc, ↓Wr_fs, ↓Wr_tup, ↓Wr_lst, ↓Wr_op1, ↓Wr_op2, ↓Wr_sm1, ↓Wr_slc, ↓Wr_isi, ↓Wr_and, ↓Wr_or, ↓Wr_not, ↓Wr_ife, ↓Wr_chn, ↓Wr_pop, ↓Wr_call, ↓Wr_callk, ↓Wr_comp, ↓Ws_set, ↓Ws_unp, ↓Ws_unps, ↓Ws_app, ↓Ws_seti, ↓Ws_setf, ↓Ws_expr, ↓Ws_ife, ↓Ws_for, ↓Ws_while, ↓Ws_ret, ↓Ws_retv, ↓Ws_retn, ↓Ws_brk, ↓Ws_cont, ↓Ws_pass, ↓Wss_cons, ↓Wss_nil, ↓Wes_nil, ↓Wes_cons, ↓Wo_none, ↓Wo_some, ↓Was_nil, ↓Was_ev, ↓Was_pk, ↓Wcall_def, catA_nil, catA_cons, ↓Wsrc_seq, ↓Wsrc_rng1, ↓Wsrc_rng2, ↓Wsrc_zip, ↓seq_nx, ↓seq_rt, ↓seq_bk, ↓seq_ct, ↓seq_ex, ↓W1_some, ↓WJ_some, ↓W1_none, ↓WJ_none, ↓Wf_fz, ↓Wf_lst, ↓Wf_dct, ↓Wf_obj, ↓Wb_bl, ↓Wi_int, ↓Wif_true, ↓Wif_false, ↓Wv_fz, ↓Wv_ow, ↓Wv_owd, ↓Wv_owo, ↓Wsem_ok, ↓setR_fz, ↓setR_fr, ↓Wrv_some, ↓Wpk_some, ↓Wunp_fz, ↓Wunps_lst, ↓WisL_lst, ↓Wapp_ow, ↓Wapp_io, ↓Wseti_ow, ↓Wseti_io, ↓Wretv_fz, ↓Wretv_ow, ↓Wpop_io, ↓Wpop_ow, ↓Wturn_none, ↓Wturn_some, ↓accO_some, ↓accO_none, ↓res_val, ↓res_pk, ↓slotD_0, ↓slotD_s, W1_some, WJ_some, W1_none, WJ_none, Wf_fz, Wf_lst, Wf_dct, Wf_obj, Wb_bl, Wi_int, Wif_true, Wif_false, Wv_fz, Wv_ow, Wv_owd, Wv_owo, Wsem_ok, setR_fz, setR_fr, Wrv_some, Wpk_some, Wunp_fz, Wunps_lst, WisL_lst, Wapp_ow, Wapp_io, Wseti_ow, Wseti_io, Wretv_fz, Wretv_ow, Wpop_io, Wpop_ow, accO_some, accO_none, Int.reduceLT, Int.reduceLE, Nat.reduceLT, Nat.reduceLeDiff, Int.reduceToNat, Int.reduceAdd, Int.reduceSub, Int.reduceMul, Int.reduceNeg, decide_true, decide_false, Bool.or_true, Bool.true_or, Bool.or_false, Bool.false_or, Bool.and_true, Bool.true_and, Bool.and_false, Bool.false_and, Bool.not_true, Bool.not_false, and_true, true_and, Option.map_some, Option.map_none, Option.bind_some, Option.bind_none, List.set_cons_zero, List.set_cons_succ, k1_len_str, k1_len_tup, k1_len_lst, k1_len_frl, k1_abs, k1_neg, k1_int, k1_intb, k1_tuple_lst, k1_tuple_tup, k1_list_lst, k1_list_tup, k1_rev, k1_isN, k1_notN, k2_add, k2_add_str, k2_add_lst, k2_sub, k1_isT, k1_notT, k2_mul, k2_muls, k2_fdiv, k2_mod, k2_pow6, k2_pow18, k2_pow12, k2_lt, k2_le, k2_gt, k2_ge, k2_eq, k2_ne, k2_in, k2_notin, k2_idx, idx_0, idx_1, idx_2, idx_3, idt_0, idt_1, idt_2, idt_3, k2_max, slc_str, slc_lst, slc_frl, seq_lst, seq_tup, seq_str, turnE_nx, turnE_ct, turnE_rt, turnE_bk, wipeD, backW, freeT_nil, freeT_cons, freeT1_none, freeT1_fz, freeT1_fzs, lockI, lockD_n, lockD_s, openD_n, openD_s, bindT_1, bindT_2, bindM, size_le, List.foldl_cons, List.foldl_nil, List.all_cons, List.all_nil, List.getElem?_cons_zero, List.getElem?_cons_succ, Option.join_some, Option.join_none, List.zip_cons_cons, List.zip_nil_left, List.length_cons, List.length_nil, List.length_append, Nat.reduceAdd, Nat.reduceEqDiff, Bool.false_eq_true, if_true, if_false, ↓reduceIte, ite_true, ite_false, ki_int_int, ki_int_str, ki_int_bool, ki_int_list, ki_int_tuple, ki_int_dict, ki_bl_int, ki_bl_str, ki_bl_bool, ki_bl_list, ki_bl_tuple, ki_bl_dict, ki_str_int, ki_str_str, ki_str_bool, ki_str_list, ki_str_tuple, ki_str_dict, ki_lst_int, ki_lst_str, ki_lst_bool, ki_lst_list, ki_lst_tuple, ki_lst_dict, ki_frl_int, ki_frl_str, ki_frl_bool, ki_frl_list, ki_frl_tuple, ki_frl_dict, ki_tup_int, ki_tup_str, ki_tup_bool, ki_tup_list, ki_tup_tuple, ki_tup_dict, ki_dct_int, ki_dct_str, ki_dct_bool, ki_dct_list, ki_dct_tuple, ki_dct_dict, ki_non_int, ki_non_str, ki_non_bool, ki_non_list, ki_non_tuple, ki_non_dict, kis_nil, kis_t, kis_f, Z.argsOf, Z.argOf, Z.backTo, Z.outsOf, List.any_nil, List.any_cons, Tis_word_0_1, str_0 hs.size, inD_str, hz, cut1, has_only_ok ht]
          refine ⟨fun h4 => ?_, fun h4 => ?_⟩
          · rw [wordB, wordLike, decide_eq_true h2, h4, h3, Bool.not_false, Bool.and_true]
            rfl
          · rw [wordB, wordLike, decide_eq_true h2, h4]
            rfl
  · cases s with
    | nil => rfl
    | cons c s => simp at h1; omega
/-- a mark behind its sign -/
def threeB : List (List Nat) → Bool
  | [a, b, c] => decide (a = []) && numB b 4 && numB c 4
  | _ => false
def markB (s : List Nat) : Bool :=
  let r := s.dropWhile fun c => decide (c ∈ [98, 102])
  decide (r = []) || decide (r = [63]) || threeB (TL.spl [47] 0 [] r)
theorem is_mark_ok {s : List Nat} (hs : Ok s) : Fis_mark.sem [(.fz, .str s)] = .ok (.fz (.bl (markB s))) [.str s] := by
  rw [Fis_mark_sem]; refine runF_eq (np := 1) rfl ?_; simp only [List.map_cons, List.map_nil, List.replicate, Nat.reduceSub, List.replicate_zero, List.cons_append, List.nil_append, Bis_mark, Tis_mark_0_0]
  obtain ⟨r, hr⟩ : ∃ r, r = s.dropWhile fun c => decide (c ∈ [98, 102]) := ⟨_, rfl⟩
  have hrs : Ok r := by
    refine hs.sub (fun c hc => ?_) ?_
    · rw [hr] at hc; exact (List.dropWhile_sublist _).subset hc
    · rw [hr]; exact (List.dropWhile_sublist _).length_le
  simp only [↓We_var, ↓We_int, ↓We_str, ↓We_bl, ↓We_non, ↓We_gl, ↓We_dspc, ↓We_fs, ↓We_tup, ↓We_lst, ↓We_op1, ↓We_op2, ↓We_sm1, ↓We_slc, ↓We_isi, ↓We_and, ↓We_or, ↓We_one, ↓We_not, ↓We_ife, ↓We_chn, ↓We_pop, ↓We_call, ↓We_callk, ↓We_comp, ↓Wr_var, ↓Wr_int, ↓Wr_str, ↓Wr_bl, ↓Wr_non, ↓Wr_gl, ↓Wr_dspc, ↓Wr_fs, ↓Wr_tup, ↓Wr_lst, ↓Wr_op1, ↓Wr_op2, ↓Wr_sm1, ↓Wr_slc, ↓Wr_isi, ↓Wr_and, ↓Wr_or, ↓Wr_not, ↓Wr_ife, ↓Wr_chn, ↓Wr_pop, ↓Wr_call, ↓Wr_callk, ↓Wr_comp, ↓Ws_set, ↓Ws_unp, ↓Ws_unps, ↓Ws_app, ↓Ws_seti, ↓Ws_setf, ↓Ws_expr, ↓Ws_ife, ↓Ws_for, ↓Ws_while, ↓Ws_ret, ↓Ws_retv, ↓Ws_retn, ↓Ws_brk, ↓Ws_cont, ↓Ws_pass, ↓Wss_cons, ↓Wss_nil, ↓Wes_nil, ↓Wes_cons, ↓Wo_none, ↓Wo_some, ↓Was_nil, ↓Was_ev, ↓Was_pk, ↓Wcall_def, catA_nil, catA_cons, ↓Wsrc_seq, ↓Wsrc_rng1, ↓Wsrc_rng2, ↓Wsrc_zip, ↓seq_nx, ↓seq_rt, ↓seq_bk, ↓seq_ct, ↓seq_ex, ↓W1_some, ↓WJ_some, ↓W1_none, ↓WJ_none, ↓Wf_fz, ↓Wf_lst, ↓Wf_dct, ↓Wf_obj, ↓Wb_bl, ↓Wi_int, ↓Wif_true, ↓Wif_false, ↓Wv_fz, ↓Wv_ow, ↓Wv_owd, ↓Wv_owo, ↓Wsem_ok, ↓setR_fz, ↓setR_fr, ↓Wrv_some, ↓Wpk_some, ↓Wunp_fz, ↓Wunps_lst, ↓WisL_lst, ↓Wapp_ow, ↓Wapp_io, ↓Wseti_ow, ↓Wseti_io, ↓Wretv_fz, ↓Wretv_ow, ↓Wpop_io, ↓Wpop_ow, ↓Wturn_none, ↓Wturn_some, ↓accO_some, ↓accO_none, ↓res_val, ↓res_pk, ↓slotD_0, ↓slotD_s, W1_some, WJ_some, W1_none, WJ_none, Wf_fz, Wf_lst, Wf_dct, Wf_obj, Wb_bl, Wi_int, Wif_true, Wif_false, Wv_fz, Wv_ow, Wv_owd, Wv_owo, Wsem_ok, setR_fz, setR_fr, Wrv_some, Wpk_some, Wunp_fz, Wunps_lst, WisL_lst, Wapp_ow, Wapp_io, Wseti_ow, Wseti_io, Wretv_fz, Wretv_ow, Wpop_io, Wpop_ow, accO_some, accO_none, Int.reduceLT, Int.reduceLE, Nat.reduceLT, Nat.reduceLeDiff, Int.reduceToNat, Int.reduceAdd, Int.reduceSub, Int.reduceMul, Int.reduceNeg, decide_true, decide_false, Bool.or_true, Bool.true_or, Bool.or_false, Bool.false_or, Bool.and_true, Bool.true_and, Bool.and_false, Bool.false_and, Bool.not_true, Bool.not_false, and_true, true_and, Option.map_some, Option.map_none, Option.bind_some, Option.bind_none, List.set_cons_zero, List.set_cons_succ, k1_len_str, k1_len_tup, k1_len_lst, k1_len_frl, k1_abs, k1_neg, k1_int, k1_intb, k1_tuple_lst, k1_tuple_tup, k1_list_lst, k1_list_tup, k1_rev, k1_isN, k1_notN, k2_add, k2_add_str, k2_add_lst, k2_sub, k1_isT, k1_notT, k2_mul, k2_muls, k2_fdiv, k2_mod, k2_pow6, k2_pow18, k2_pow12, k2_lt, k2_le, k2_gt, k2_ge, k2_eq, k2_ne, k2_in, k2_notin, k2_idx, idx_0, idx_1, idx_2, idx_3, idt_0, idt_1, idt_2, idt_3, k2_max, slc_str, slc_lst, slc_frl, seq_lst, seq_tup, seq_str, turnE_nx, turnE_ct, turnE_rt, turnE_bk, wipeD, backW, freeT_nil, freeT_cons, freeT1_none, freeT1_fz, freeT1_fzs, lockI, lockD_n, lockD_s, openD_n, openD_s, bindT_1, bindT_2, bindM, size_le, List.foldl_cons, List.foldl_nil, List.all_cons, List.all_nil, List.getElem?_cons_zero, List.getElem?_cons_succ, Option.join_some, Option.join_none, List.zip_cons_cons, List.zip_nil_left, List.length_cons, List.length_nil, List.length_append, Nat.reduceAdd, Nat.reduceEqDiff, Bool.false_eq_true, if_true, if_false, ↓reduceIte, ite_true, ite_false, ki_int_int, ki_int_str, ki_int_bool, ki_int_list, ki_int_tuple, ki_int_dict, ki_bl_int, ki_bl_str, ki_bl_bool, ki_bl_list, ki_bl_tuple, ki_bl_dict, ki_str_int, ki_str_str, ki_str_bool, ki_str_list, ki_str_tuple, ki_str_dict, ki_lst_int, ki_lst_str, ki_lst_bool, ki_lst_list, ki_lst_tuple, ki_lst_dict, ki_frl_int, ki_frl_str, ki_frl_bool, ki_frl_list, ki_frl_tuple, ki_frl_dict, ki_tup_int, ki_tup_str, ki_tup_bool, ki_tup_list, ki_tup_tuple, ki_tup_dict, ki_dct_int, ki_dct_str, ki_dct_bool, ki_dct_list, ki_dct_tuple, ki_dct_dict, ki_non_int, ki_non_str, ki_non_bool, ki_non_list, ki_non_tuple, ki_non_dict, kis_nil, kis_t, kis_f, Z.argsOf, Z.argOf, Z.backTo, Z.outsOf, List.any_nil, List.any_cons, Tis_mark_0_1, Tis_mark_1_0, m1_lstrip hs.size, ← hr, eqD_str hrs.1 (show ∀ c ∈ ([] : List Nat), c < 1114112 by simp), eqD_str hrs.1 (show ∀ c ∈ [63], c < 1114112 by simp)]
  rw [markB, ← hr]
  refine ⟨fun h1 => ?_, fun h1 => ?_⟩
  · simp only [h1, Bool.true_or]
  · refine ⟨fun h2 => ?_, fun h2 => ?_⟩
    · simp only [h2, Bool.true_or, Bool.or_true]
    · simp only [h1, h2, Bool.false_or]
      have hall := spl_all [47] r 0 [] (P := fun c => c < 1114112) (by simp) hrs.1
      obtain ⟨hl1, hl2⟩ := spl_lens [47] r 0 []
      simp only [↓We_var, ↓We_int, ↓We_str, ↓We_bl, ↓We_non, ↓We_gl, ↓We_dspc, ↓We_fs, ↓We_tup, ↓We_lst, ↓We_op1, ↓We_op2, ↓We_sm1, ↓We_slc, ↓We_isi, ↓We_and, ↓We_or, ↓We_one, ↓We_not, ↓We_ife, ↓We_chn, ↓We_pop, ↓We_call, ↓We_callk, ↓We_comp, ↓Wr_var, ↓Wr_int, ↓Wr_str, ↓Wr_bl, ↓Wr_non, ↓Wr_gl, ↓Wr_dspc, ↓Wr_fs, ↓Wr_tup, ↓Wr_lst, ↓Wr_op1, ↓Wr_op2, ↓Wr_sm1, ↓Wr_slc, ↓Wr_isi, ↓Wr_and, ↓Wr_or, ↓Wr_not, ↓Wr_ife, ↓Wr_chn, ↓Wr_pop, ↓Wr_call, ↓Wr_callk, ↓Wr_comp, ↓Ws_set, ↓Ws_unp, ↓Ws_unps, ↓Ws_app, ↓Ws_seti, ↓Ws_setf, ↓Ws_expr, ↓Ws_ife, ↓Ws_for, ↓Ws_while, ↓Ws_ret, ↓Ws_retv, ↓Ws_retn, ↓Ws_brk, ↓Ws_cont, ↓Ws_pass, ↓Wss_cons, ↓Wss_nil, ↓Wes_nil, ↓Wes_cons, ↓Wo_none, ↓Wo_some, ↓Was_nil, ↓Was_ev, ↓Was_pk, ↓Wcall_def, catA_nil, catA_cons, ↓Wsrc_seq, ↓Wsrc_rng1, ↓Wsrc_rng2, ↓Wsrc_zip, ↓seq_nx, ↓seq_rt, ↓seq_bk, ↓seq_ct, ↓seq_ex, ↓W1_some, ↓WJ_some, ↓W1_none, ↓WJ_none, ↓Wf_fz, ↓Wf_lst, ↓Wf_dct, ↓Wf_obj, ↓Wb_bl, ↓Wi_int, ↓Wif_true, ↓Wif_false, ↓Wv_fz, ↓Wv_ow, ↓Wv_owd, ↓Wv_owo, ↓Wsem_ok, ↓setR_fz, ↓setR_fr, ↓Wrv_some, ↓Wpk_some, ↓Wunp_fz, ↓Wunps_lst, ↓WisL_lst, ↓Wapp_ow, ↓Wapp_io, ↓Wseti_ow, ↓Wseti_io, ↓Wretv_fz, ↓Wretv_ow, ↓Wpop_io, ↓Wpop_ow, ↓Wturn_none, ↓Wturn_some, ↓accO_some, ↓accO_none, ↓res_val, ↓res_pk, ↓slotD_0, ↓slotD_s, W1_some, WJ_some, W1_none, WJ_none, Wf_fz, Wf_lst, Wf_dct, Wf_obj, Wb_bl, Wi_int, Wif_true, Wif_false, Wv_fz, Wv_ow, Wv_owd, Wv_owo, Wsem_ok, setR_fz, setR_fr, Wrv_some, Wpk_some, Wunp_fz, Wunps_lst, WisL_lst, Wapp_ow, Wapp_io, Wseti_ow, Wseti_io, Wretv_fz, Wretv_ow, Wpop_io, Wpop_ow, accO_some, accO_none, Int.reduceLT, Int.reduceLE, Nat.reduceLT, Nat.reduceLeDiff, Int.reduceToNat, Int.reduceAdd, Int.reduceSub, Int.reduceMul, Int.reduceNeg, decide_true, decide_false, Bool.or_true, Bool.true_or, Bool.or_false, Bool.false_or, Bool.and_true, Bool.true_and, Bool.and_false, Bool.false_and, Bool.not_true, Bool.not_false, and_true, true_and, Option.map_some, Option.map_none, Option.bind_some, Option.bind_none, List.set_cons_zero, List.set_cons_succ, k1_len_str, k1_len_tup, k1_len_lst, k1_len_frl, k1_abs, k1_neg, k1_int, k1_intb, k1_tuple_lst, k1_tuple_tup, k1_list_lst, k1_list_tup, k1_rev, k1_isN, k1_notN, k2_add, k2_add_str, k2_add_lst, k2_sub, k1_isT, k1_notT, k2_mul, k2_muls, k2_fdiv, k2_mod, k2_pow6, k2_pow18, k2_pow12, k2_lt, k2_le, k2_gt, k2_ge, k2_eq, k2_ne, k2_in, k2_notin, k2_idx, idx_0, idx_1, idx_2, idx_3, idt_0, idt_1, idt_2, idt_3, k2_max, slc_str, slc_lst, slc_frl, seq_lst, seq_tup, seq_str, turnE_nx, turnE_ct, turnE_rt, turnE_bk, wipeD, backW, freeT_nil, freeT_cons, freeT1_none, freeT1_fz, freeT1_fzs, lockI, lockD_n, lockD_s, openD_n, openD_s, bindT_1, bindT_2, bindM, size_le, List.foldl_cons, List.foldl_nil, List.all_cons, List.all_nil, List.getElem?_cons_zero, List.getElem?_cons_succ, Option.join_some, Option.join_none, List.zip_cons_cons, List.zip_nil_left, List.length_cons, List.length_nil, List.length_append, Nat.reduceAdd, Nat.reduceEqDiff, Bool.false_eq_true, if_true, if_false, ↓reduceIte, ite_true, ite_false, ki_int_int, ki_int_str, ki_int_bool, ki_int_list, ki_int_tuple, ki_int_dict, ki_bl_int, ki_bl_str, ki_bl_bool, ki_bl_list, ki_bl_tuple, ki_bl_dict, ki_str_int, ki_str_str, ki_str_bool, ki_str_list, ki_str_tuple, ki_str_dict, ki_lst_int, ki_lst_str, ki_lst_bool, ki_lst_list, ki_lst_tuple, ki_lst_dict, ki_frl_int, ki_frl_str, ki_frl_bool, ki_frl_list, ki_frl_tuple, ki_frl_dict, ki_tup_int, ki_tup_str, ki_tup_bool, ki_tup_list, ki_tup_tuple, ki_tup_dict, ki_dct_int, ki_dct_str, ki_dct_bool, ki_dct_list, ki_dct_tuple, ki_dct_dict, ki_non_int, ki_non_str, ki_non_bool, ki_non_list, ki_non_tuple, ki_non_dict, kis_nil, kis_t, kis_f, Z.argsOf, Z.argOf, Z.backTo, Z.outsOf, List.any_nil, List.any_cons, Tis_mark_0_2, Tis_mark_0_3, m1_split (s := r) (y := [47]) (by simp) (by decide) (Nat.le_trans hrs.2 (by decide))]
      have hok : ∀ p ∈ TL.spl [47] 0 [] r, Ok p := fun p hp => ⟨hall p hp, by have := hl2 p hp; have := hrs.2; simp at *; omega⟩
      generalize TL.spl [47] 0 [] r = ps at hok
      simp only [↓We_var, ↓We_int, ↓We_str, ↓We_bl, ↓We_non, ↓We_gl, ↓We_dspc, ↓We_fs, ↓We_tup, ↓We_lst, ↓We_op1, ↓We_op2, ↓We_sm1, ↓We_slc, ↓We_isi, ↓We_and, ↓We_or, ↓We_one, ↓We_not, ↓We_ife, ↓We_chn, ↓We_pop, ↓We_call, ↓We_callk, ↓We_comp, ↓Wr_var, ↓Wr_int, ↓Wr_str, ↓Wr_bl, ↓Wr_non, ↓Wr_gl, ↓Wr_dspc, ↓Wr_fs, ↓Wr_tup, ↓Wr_lst, ↓Wr_op1, ↓Wr_op2, ↓Wr_sm1, ↓Wr_slc, ↓Wr_isi, ↓Wr_and, ↓Wr_or, ↓Wr_not, ↓Wr_ife, ↓Wr_chn, ↓Wr_pop, ↓Wr_call, ↓Wr_callk, ↓Wr_comp, ↓Ws_set, ↓Ws_unp, ↓Ws_unps, ↓Ws_app, ↓Ws_seti, ↓Ws_setf, ↓Ws_expr, ↓Ws_ife, ↓Ws_for, ↓Ws_while, ↓Ws_ret, ↓Ws_retv, ↓Ws_retn, ↓Ws_brk, ↓Ws_cont, ↓Ws_pass, ↓Wss_cons, ↓Wss_nil, ↓Wes_nil, ↓Wes_cons, ↓Wo_none, ↓Wo_some, ↓Was_nil, ↓Was_ev, ↓Was_pk, ↓Wcall_def, catA_nil, catA_cons, ↓Wsrc_seq, ↓Wsrc_rng1, ↓Wsrc_rng2, ↓Wsrc_zip, ↓seq_nx, ↓seq_rt, ↓seq_bk, ↓seq_ct, ↓seq_ex, ↓W1_some, ↓WJ_some, ↓W1_none, ↓WJ_none, ↓Wf_fz, ↓Wf_lst, ↓Wf_dct, ↓Wf_obj, ↓Wb_bl, ↓Wi_int, ↓Wif_true, ↓Wif_false, ↓Wv_fz, ↓Wv_ow, ↓Wv_owd, ↓Wv_owo, ↓Wsem_ok, ↓setR_fz, ↓setR_fr, ↓Wrv_some, ↓Wpk_some, ↓Wunp_fz, ↓Wunps_lst, ↓WisL_lst, ↓Wapp_ow, ↓Wapp_io, ↓Wseti_ow, ↓Wseti_io, ↓Wretv_fz, ↓Wretv_ow, ↓Wpop_io, ↓Wpop_ow, ↓Wturn_none, ↓Wturn_some, ↓accO_some, ↓accO_none, ↓res_val, ↓res_pk, ↓slotD_0, ↓slotD_s, W1_some, WJ_some, W1_none, WJ_none, Wf_fz, Wf_lst, Wf_dct, Wf_obj, Wb_bl, Wi_int, Wif_true, Wif_false, Wv_fz, Wv_ow, Wv_owd, Wv_owo, Wsem_ok, setR_fz, setR_fr, Wrv_some, Wpk_some, Wunp_fz, Wunps_lst, WisL_lst, Wapp_ow, Wapp_io, Wseti_ow, Wseti_io, Wretv_fz, Wretv_ow, Wpop_io, Wpop_ow, accO_some, accO_none, Int.reduceLT, Int.reduceLE, Nat.reduceLT, Nat.reduceLeDiff, Int.reduceToNat, Int.reduceAdd, Int.reduceSub, Int.reduceMul, Int.reduceNeg, decide_true, decide_false, Bool.or_true, Bool.true_or, Bool.or_false, Bool.false_or, Bool.and_true, Bool.true_and, Bool.and_false, Bool.false_and, Bool.not_true, Bool.not_false, and_true, true_and, Option.map_some, Option.map_none, Option.bind_some, Option.bind_none, List.set_cons_zero, List.set_cons_succ, k1_len_str, k1_len_tup, k1_len_lst, k1_len_frl, k1_abs, k1_neg, k1_int, k1_intb, k1_tuple_lst, k1_tuple_tup, k1_list_lst, k1_list_tup, k1_rev, k1_isN, k1_notN, k2_add, k2_add_str, k2_add_lst, k2_sub, k1_isT, k1_notT, k2_mul, k2_muls, k2_fdiv, k2_mod, k2_pow6, k2_pow18, k2_pow12, k2_lt, k2_le, k2_gt, k2_ge, k2_eq, k2_ne, k2_in, k2_notin, k2_idx, idx_0, idx_1, idx_2, idx_3, idt_0, idt_1, idt_2, idt_3, k2_max, slc_str, slc_lst, slc_frl, seq_lst, seq_tup, seq_str, turnE_nx, turnE_ct, turnE_rt, turnE_bk, wipeD, backW, freeT_nil, freeT_cons, freeT1_none, freeT1_fz, freeT1_fzs, lockI, lockD_n, lockD_s, openD_n, openD_s, bindT_1, bindT_2, bindM, size_le, List.foldl_cons, List.foldl_nil, List.all_cons, List.all_nil, List.getElem?_cons_zero, List.getElem?_cons_succ, Option.join_some, Option.join_none, List.zip_cons_cons, List.zip_nil_left, List.length_cons, List.length_nil, List.length_append, Nat.reduceAdd, Nat.reduceEqDiff, Bool.false_eq_true, if_true, if_false, ↓reduceIte, ite_true, ite_false, ki_int_int, ki_int_str, ki_int_bool, ki_int_list, ki_int_tuple, ki_int_dict, ki_bl_int, ki_bl_str, ki_bl_bool, ki_bl_list, ki_bl_tuple, ki_bl_dict, ki_str_int, ki_str_str, ki_str_bool, ki_str_list, ki_str_tuple, ki_str_dict, ki_lst_int, ki_lst_str, ki_lst_bool, ki_lst_list, ki_lst_tuple, ki_lst_dict, ki_frl_int, ki_frl_str, ki_frl_bool, ki_frl_list, ki_frl_tuple, ki_frl_dict, ki_tup_int, ki_tup_str, ki_tup_bool, ki_tup_list, ki_tup_tuple, ki_tup_dict, ki_dct_int, ki_dct_str, ki_dct_bool, ki_dct_list, ki_dct_tuple, ki_dct_dict, ki_non_int, ki_non_str, ki_non_bool, ki_non_list, ki_non_tuple, ki_non_dict, kis_nil, kis_t, kis_f, Z.argsOf, Z.argOf, Z.backTo, Z.outsOf, List.any_nil, List.any_cons, eqD_int]
      refine ⟨fun h3 => ?_, fun h3 => ?_⟩
      · have h3 : ps.length = 3 := by have := of_decide_eq_true h3; rw [List.length_map] at this; omega
        match ps, h3, hok with
        | [a, b, c], _, hok =>
          have ha := hok a (by simp)
          have hb := hok b (by simp)
          have hc := hok c (by simp)
          simp only [List.map_cons, List.map_nil, ↓We_var, ↓We_int, ↓We_str, ↓We_bl, ↓We_non, ↓We_gl, ↓We_dspc, ↓We_fs, ↓We_tup, ↓We_lst, ↓We_op1, ↓We_op2, ↓We_sm1, ↓We_slc, ↓We_isi, ↓We_and, ↓We_or, ↓We_one, ↓We_not, ↓We_ife, ↓We_chn, ↓We_pop, ↓We_call, ↓We_callk, ↓We_comp, ↓Wr_var, ↓Wr_int, ↓Wr_str, ↓Wr_bl, ↓Wr_non, ↓Wr_gl, ↓Wr_dspc, ↓Wr_fs, ↓Wr_tup, ↓Wr_lst, ↓Wr_op1, ↓Wr_op2, ↓Wr_sm1, ↓Wr_slc, ↓Wr_isi, ↓Wr_and, ↓Wr_or, ↓Wr_not, ↓Wr_ife, ↓Wr_chn, ↓Wr_pop, ↓Wr_call, ↓Wr_callk, ↓Wr_comp, ↓Ws_set, ↓Ws_unp, ↓Ws_unps, ↓Ws_app, ↓Ws_seti, ↓Ws_setf, ↓Ws_expr, ↓Ws_ife, ↓Ws_for, ↓Ws_while, ↓Ws_ret, ↓Ws_retv, ↓Ws_retn, ↓Ws_brk, ↓Ws_cont, ↓Ws_pass, ↓Wss_cons, ↓Wss_nil, ↓Wes_nil, ↓Wes_cons, ↓Wo_none, ↓Wo_some, ↓Was_nil, ↓Was_ev, ↓Was_pk, ↓Wcall_def, catA_nil, catA_cons, ↓Wsrc_seq, ↓Wsrc_rng1, ↓Wsrc_rng2, ↓Wsrc_zip, ↓seq_nx, ↓seq_rt, ↓seq_bk, ↓seq_ct, ↓seq_ex, ↓W1_some, ↓WJ_some, ↓W1_none, ↓WJ_none, ↓Wf_fz, ↓Wf_lst, ↓Wf_dct, ↓Wf_obj, ↓Wb_bl, ↓Wi_int, ↓Wif_true, ↓Wif_false, ↓Wv_fz, ↓Wv_ow, ↓Wv_owd, ↓Wv_owo, ↓Wsem_ok, ↓setR_fz, ↓setR_fr, ↓Wrv_some, ↓Wpk_some, ↓Wunp_fz, ↓Wunps_lst, ↓WisL_lst, ↓Wapp_ow, ↓Wapp_io, ↓Wseti_ow, ↓Wseti_io, ↓Wretv_fz, ↓Wretv_ow, ↓Wpop_io, ↓Wpop_ow, ↓Wturn_none, ↓Wturn_some, ↓accO_some, ↓accO_none, ↓res_val, ↓res_pk, ↓slotD_0, ↓slotD_s, W1_some, WJ_some, W1_none, WJ_none, Wf_fz, Wf_lst, Wf_dct, Wf_obj, Wb_bl, Wi_int, Wif_true, Wif_false, Wv_fz, Wv_ow, Wv_owd, Wv_owo, Wsem_ok, setR_fz, setR_fr, Wrv_some, Wpk_some, Wunp_fz, Wunps_lst, WisL_lst, Wapp_ow, Wapp_io, Wseti_ow, Wseti_io, Wretv_fz, Wretv_ow, Wpop_io, Wpop_ow, accO_some, accO_none, Int.reduceLT, Int.reduceLE, Nat.reduceLT, Nat.reduceLeDiff, Int.reduceToNat, Int.reduceAdd, Int.reduceSub, Int.reduceMul, Int.reduceNeg, decide_true, decide_false, Bool.or_true, Bool.true_or, Bool.or_false, Bool.false_or, Bool.and_true, Bool.true_and, Bool.and_false, Bool.false_and, Bool.not_true, Bool.not_false, and_true, true_and, Option.map_some, Option.map_none, Option.bind_some, Option.bind_none, List.set_cons_zero, List.set_cons_succ, k1_len_str, k1_len_tup, k1_len_lst, k1_len_frl, k1_abs, k1_neg, k1_int, k1_intb, k1_tuple_lst, k1_tuple_tup, k1_list_lst, k1_list_tup, k1_rev, k1_isN, k1_notN, k2_add, k2_add_str, k2_add_lst, k2_sub, k1_isT, k1_notT, k2_mul, k2_muls, k2_fdiv, k2_mod, k2_pow6, k2_pow18, k2_pow12, k2_lt, k2_le, k2_gt, k2_ge, k2_eq, k2_ne, k2_in, k2_notin, k2_idx, idx_0, idx_1, idx_2, idx_3, idt_0, idt_1, idt_2, idt_3, k2_max, slc_str, slc_lst, slc_frl, seq_lst, seq_tup, seq_str, turnE_nx, turnE_ct, turnE_rt, turnE_bk, wipeD, backW, freeT_nil, freeT_cons, freeT1_none, freeT1_fz, freeT1_fzs, lockI, lockD_n, lockD_s, openD_n, openD_s, bindT_1, bindT_2, bindM, size_le, List.foldl_cons, List.foldl_nil, List.all_cons, List.all_nil, List.getElem?_cons_zero, List.getElem?_cons_succ, Option.join_some, Option.join_none, List.zip_cons_cons, List.zip_nil_left, List.length_cons, List.length_nil, List.length_append, Nat.reduceAdd, Nat.reduceEqDiff, Bool.false_eq_true, if_true, if_false, ↓reduceIte, ite_true, ite_false, ki_int_int, ki_int_str, ki_int_bool, ki_int_list, ki_int_tuple, ki_int_dict, ki_bl_int, ki_bl_str, ki_bl_bool, ki_bl_list, ki_bl_tuple, ki_bl_dict, ki_str_int, ki_str_str, ki_str_bool, ki_str_list, ki_str_tuple, ki_str_dict, ki_lst_int, ki_lst_str, ki_lst_bool, ki_lst_list, ki_lst_tuple, ki_lst_dict, ki_frl_int, ki_frl_str, ki_frl_bool, ki_frl_list, ki_frl_tuple, ki_frl_dict, ki_tup_int, ki_tup_str, ki_tup_bool, ki_tup_list, ki_tup_tuple, ki_tup_dict, ki_dct_int, ki_dct_str, ki_dct_bool, ki_dct_list, ki_dct_tuple, ki_dct_dict, ki_non_int, ki_non_str, ki_non_bool, ki_non_list, ki_non_tuple, ki_non_dict, kis_nil, kis_t, kis_f, Z.argsOf, Z.argOf, Z.backTo, Z.outsOf, List.any_nil, List.any_cons, eqD_str ha.1 (show ∀ c ∈ ([] : List Nat), c < 1114112 by simp)]
          refine ⟨fun h4 => ?_, fun h4 => ?_⟩
          · simp only [↓We_var, ↓We_int, ↓We_str, ↓We_bl, ↓We_non, ↓We_gl, ↓We_dspc, ↓We_fs, ↓We_tup, ↓We_lst, ↓We_op1, ↓We_op2, ↓We_sm1, ↓We_slc, ↓We_isi, ↓We_and, ↓We_or, ↓We_one, ↓We_not, ↓We_ife, ↓We_chn, ↓We_pop, ↓We_call, ↓We_callk, ↓We_comp, ↓Wr_var, ↓Wr_int, ↓Wr_str, ↓Wr_bl, ↓Wr_non, ↓Wr_gl, ↓Wr_dspc, ↓Wr_fs, ↓Wr_tup, ↓Wr_lst, ↓Wr_op1, ↓Wr_op2, ↓Wr_sm1, ↓Wr_slc, ↓Wr_isi, ↓Wr_and, ↓Wr_or, ↓Wr_not, ↓Wr_ife, ↓Wr_chn, ↓Wr_pop, ↓Wr_call, ↓Wr_callk, ↓Wr_comp, ↓Ws_set, ↓Ws_unp, ↓Ws_unps, ↓Ws_app, ↓Ws_seti, ↓Ws_setf, ↓Ws_expr, ↓Ws_ife, ↓Ws_for, ↓Ws_while, ↓Ws_ret, ↓Ws_retv, ↓Ws_retn, ↓Ws_brk, ↓Ws_cont, ↓Ws_pass, ↓Wss_cons, ↓Wss_nil, ↓Wes_nil, ↓Wes_cons, ↓Wo_none, ↓Wo_some, ↓Was_nil, ↓Was_ev, ↓Was_pk, ↓Wcall_def, catA_nil, catA_cons, ↓Wsrc_seq, ↓Wsrc_rng1, ↓Wsrc_rng2, ↓Wsrc_zip, ↓seq_nx, ↓seq_rt, ↓seq_bk, ↓seq_ct, ↓seq_ex, ↓W1_some, ↓WJ_some, ↓W1_none, ↓WJ_none, ↓Wf_fz, ↓Wf_lst, ↓Wf_dct, ↓Wf_obj, ↓Wb_bl, ↓Wi_int, ↓Wif_true, ↓Wif_false, ↓Wv_fz, ↓Wv_ow, ↓Wv_owd, ↓Wv_owo, ↓Wsem_ok, ↓setR_fz, ↓setR_fr, ↓Wrv_some, ↓Wpk_some, ↓Wunp_fz, ↓Wunps_lst, ↓WisL_lst, ↓Wapp_ow, ↓Wapp_io, ↓Wseti_ow, ↓Wseti_io, ↓Wretv_fz, ↓Wretv_ow, ↓Wpop_io, ↓Wpop_ow, ↓Wturn_none, ↓Wturn_some, ↓accO_some, ↓accO_none, ↓res_val, ↓res_pk, ↓slotD_0, ↓slotD_s, W1_some, WJ_some, W1_none, WJ_none, Wf_fz, Wf_lst, Wf_dct, Wf_obj, Wb_bl, Wi_int, Wif_true, Wif_false, Wv_fz, Wv_ow, Wv_owd, Wv_owo, Wsem_ok, setR_fz, setR_fr, Wrv_some, Wpk_some, Wunp_fz, Wunps_lst, WisL_lst, Wapp_ow, Wapp_io, Wseti_ow, Wseti_io, Wretv_fz, Wretv_ow, Wpop_io, Wpop_ow, accO_some, accO_none, Int.reduceLT, Int.reduceLE, Nat.reduceLT, Nat.reduceLeDiff, Int.reduceToNat, Int.reduceAdd, Int.reduceSub, Int.reduceMul, Int.reduceNeg, decide_true, decide_false, Bool.or_true, Bool.true_or, Bool.or_false, Bool.false_or, Bool.and_true, Bool.true_and, Bool.and_false, Bool.false_and, Bool.not_true, Bool.not_false, and_true, true_and, Option.map_some, Option.map_none, Option.bind_some, Option.bind_none, List.set_cons_zero, List.set_cons_succ, k1_len_str, k1_len_tup, k1_len_lst, k1_len_frl, k1_abs, k1_neg, k1_int, k1_intb, k1_tuple_lst, k1_tuple_tup, k1_list_lst, k1_list_tup, k1_rev, k1_isN, k1_notN, k2_add, k2_add_str, k2_add_lst, k2_sub, k1_isT, k1_notT, k2_mul, k2_muls, k2_fdiv, k2_mod, k2_pow6, k2_pow18, k2_pow12, k2_lt, k2_le, k2_gt, k2_ge, k2_eq, k2_ne, k2_in, k2_notin, k2_idx, idx_0, idx_1, idx_2, idx_3, idt_0, idt_1, idt_2, idt_3, k2_max, slc_str, slc_lst, slc_frl, seq_lst, seq_tup, seq_str, turnE_nx, turnE_ct, turnE_rt, turnE_bk, wipeD, backW, freeT_nil, freeT_cons, freeT1_none, freeT1_fz, freeT1_fzs, lockI, lockD_n, lockD_s, openD_n, openD_s, bindT_1, bindT_2, bindM, size_le, List.foldl_cons, List.foldl_nil, List.all_cons, List.all_nil, List.getElem?_cons_zero, List.getElem?_cons_succ, Option.join_some, Option.join_none, List.zip_cons_cons, List.zip_nil_left, List.length_cons, List.length_nil, List.length_append, Nat.reduceAdd, Nat.reduceEqDiff, Bool.false_eq_true, if_true, if_false, ↓reduceIte, ite_true, ite_false, ki_int_int, ki_int_str, ki_int_bool, ki_int_list, ki_int_tuple, ki_int_dict, ki_bl_int, ki_bl_str, ki_bl_bool, ki_bl_list, ki_bl_tuple, ki_bl_dict, ki_str_int, ki_str_str, ki_str_bool, ki_str_list, ki_str_tuple, ki_str_dict, ki_lst_int, ki_lst_str, ki_lst_bool, ki_lst_list, ki_lst_tuple, ki_lst_dict, ki_frl_int, ki_frl_str, ki_frl_bool, ki_frl_list, ki_frl_tuple, ki_frl_dict, ki_tup_int, ki_tup_str, ki_tup_bool, ki_tup_list, ki_tup_tuple, ki_tup_dict, ki_dct_int, ki_dct_str, ki_dct_bool, ki_dct_list, ki_dct_tuple, ki_dct_dict, ki_non_int, ki_non_str, ki_non_bool, ki_non_list, ki_non_tuple, ki_non_dict, kis_nil, kis_t, kis_f, Z.argsOf, Z.argOf, Z.backTo, Z.outsOf, List.any_nil, List.any_cons, is_number_4 hb, threeB]
            refine ⟨fun h5 => ?_, fun h5 => ?_⟩
            · simp only [↓We_var, ↓We_int, ↓We_str, ↓We_bl, ↓We_non, ↓We_gl, ↓We_dspc, ↓We_fs, ↓We_tup, ↓We_lst, ↓We_op1, ↓We_op2, ↓We_sm1, ↓We_slc, ↓We_isi, ↓We_and, ↓We_or, ↓We_one, ↓We_not, ↓We_ife, ↓We_chn, ↓We_pop, ↓We_call, ↓We_callk, ↓We_comp, ↓Wr_var, ↓Wr_int, ↓Wr_str, ↓Wr_bl, ↓Wr_non, ↓Wr_gl, ↓Wr_dspc, ↓Wr_fs, ↓Wr_tup, ↓Wr_lst, ↓Wr_op1, ↓Wr_op2, ↓Wr_sm1, ↓Wr_slc, ↓Wr_isi, ↓Wr_and, ↓Wr_or, ↓Wr_not, ↓Wr_ife, ↓Wr_chn, ↓Wr_pop, ↓Wr_call, ↓Wr_callk, ↓Wr_comp, ↓Ws_set, ↓Ws_unp, ↓Ws_unps, ↓Ws_app, ↓Ws_seti, ↓Ws_setf, ↓Ws_expr, ↓Ws_ife, ↓Ws_for, ↓Ws_while, ↓Ws_ret, ↓Ws_retv, ↓Ws_retn, ↓Ws_brk, ↓Ws_cont, ↓Ws_pass, ↓Wss_cons, ↓Wss_nil, ↓Wes_nil, ↓Wes_cons, ↓Wo_none, ↓Wo_some, ↓Was_nil, ↓Was_ev, ↓Was_pk, ↓Wcall_def, catA_nil, catA_cons, ↓Wsrc_seq, ↓Wsrc_rng1, ↓Wsrc_rng2, ↓Wsrc_zip, ↓seq_nx, ↓seq_rt, ↓seq_bk, ↓seq_ct, ↓seq_ex, ↓W1_some, ↓WJ_some, ↓W1_none, ↓WJ_none, ↓Wf_fz, ↓Wf_lst, ↓Wf_dct, ↓Wf_obj, ↓Wb_bl, ↓Wi_int, ↓Wif_true, ↓Wif_false, ↓Wv_fz, ↓Wv_ow, ↓Wv_owd, ↓Wv_owo, ↓Wsem_ok, ↓setR_fz, ↓setR_fr, ↓Wrv_some, ↓Wpk_some, ↓Wunp_fz, ↓Wunps_lst, ↓WisL_lst, ↓Wapp_ow, ↓Wapp_io, ↓Wseti_ow, ↓Wseti_io, ↓Wretv_fz, ↓Wretv_ow, ↓Wpop_io, ↓Wpop_ow, ↓Wturn_none, ↓Wturn_some, ↓accO_some, ↓accO_none, ↓res_val, ↓res_pk, ↓slotD_0, ↓slotD_s, W1_some, WJ_some, W1_none, WJ_none, Wf_fz, Wf_lst, Wf_dct, Wf_obj, Wb_bl, Wi_int, Wif_true, Wif_false, Wv_fz, Wv_ow, Wv_owd, Wv_owo, Wsem_ok, setR_fz, setR_fr, Wrv_some, Wpk_some, Wunp_fz, Wunps_lst, WisL_lst, Wapp_ow, Wapp_io, Wseti_ow, Wseti_io, Wretv_fz, Wretv_ow, Wpop_io, Wpop_ow, accO_some, accO_none, Int.reduceLT, Int.reduceLE, Nat.reduceLT, Nat.reduceLeDiff, Int.reduceToNat, Int.reduceAdd, Int.reduceSub, Int.reduceMul, Int.reduceNeg, decide_true, decide_false, Bool.or_true, Bool.true_or, Bool.or_false, Bool.false_or, Bool.and_true, Bool.true_and, Bool.and_false, Bool.false_and, Bool.not_true, Bool.not_false, and_true, true_and, Option.map_some, Option.map_none, Option.bind_some, Option.bind_none, List.set_cons_zero, List.set_cons_succ, k1_len_str, k1_len_tup, k1_len_lst, k1_len_frl, k1_abs, k1_neg, k1_int, k1_intb, k1_tuple_lst, k1_tuple_tup, k1_list_lst, k1_list_tup, k1_rev, k1_isN, k1_notN, k2_add, k2_add_str, k2_add_lst, k2_sub, k1_isT, k1_notT, k2_mul, k2_muls, k2_fdiv, k2_mod, k2_pow6, k2_pow18, k2_pow12, k2_lt, k2_le, k2_gt, k2_ge, k2_eq, k2_ne, k2_in, k2_notin, k2_idx, idx_0, idx_1, idx_2, idx_3, idt_0, idt_1, idt_2, idt_3, k2_max, slc_str, slc_lst, slc_frl, seq_lst, seq_tup, seq_str, turnE_nx, turnE_ct, turnE_rt, turnE_bk, wipeD, backW, freeT_nil, freeT_cons, freeT1_none, freeT1_fz, freeT1_fzs, lockI, lockD_n, lockD_s, openD_n, openD_s, bindT_1, bindT_2, bindM, size_le, List.foldl_cons, List.foldl_nil, List.all_cons, List.all_nil, List.getElem?_cons_zero, List.getElem?_cons_succ, Option.join_some, Option.join_none, List.zip_cons_cons, List.zip_nil_left, List.length_cons, List.length_nil, List.length_append, Nat.reduceAdd, Nat.reduceEqDiff, Bool.false_eq_true, if_true, if_false, ↓reduceIte, ite_true, ite_false, ki_int_int, ki_int_str, ki_int_bool, ki_int_list, ki_int_tuple, ki_int_dict, ki_bl_int, ki_bl_str, ki_bl_bool, ki_bl_list, ki_bl_tuple, ki_bl_dict, ki_str_int, ki_str_str, ki_str_bool, ki_str_list, ki_str_tuple, ki_str_dict, ki_lst_int, ki_lst_str, ki_lst_bool, ki_lst_list, ki_lst_tuple, ki_lst_dict, ki_frl_int, ki_frl_str, ki_frl_bool, ki_frl_list, ki_frl_tuple, ki_frl_dict, ki_tup_int, ki_tup_str, ki_tup_bool, ki_tup_list, ki_tup_tuple, ki_tup_dict, ki_dct_int, ki_dct_str, ki_dct_bool, ki_dct_list, ki_dct_tuple, ki_dct_dict, ki_non_int, ki_non_str, ki_non_bool, ki_non_list, ki_non_tuple, ki_non_dict, kis_nil, kis_t, kis_f, Z.argsOf, Z.argOf, Z.backTo, Z.outsOf, List.any_nil, List.any_cons, is_number_4 hc, threeB, h4, h5]
            · simp only [threeB, h4, h5, Bool.and_false, Bool.false_and]
          · simp only [threeB, h4, Bool.and_false, Bool.false_and]
      · have h3 : ¬ ps.length = 3 := by have := of_decide_eq_false h3; rw [List.length_map] at this; omega
        match ps, h3 with
        | [], _ => rfl
        | [_], _ => rfl
        | [_, _], _ => rfl
        | [_, _, _], h => exact absurd rfl h
        | _ :: _ :: _ :: _ :: _, _ => rfl
theorem starD_12 {w : D} {ms : List D} : starD 1 2 (w :: ms) = [w, .lst ms] := by
  unfold starD
  simp
def nameB : D → Bool
  | .str s => match TL.spl [64] 0 [] s with
    | [] => false
    | w :: ms => wordB w && ms.all markB
  | _ => false
theorem is_name_ok {d : D} (h : plain d = true) (hs : ∀ s, d = .str s → Ok s) : Fis_name.sem [(.fz, d)] = .ok (.fz (.bl (nameB d))) [d] := by

  rw [Fis_name_sem]; refine runF_eq (np := 1) rfl ?_; simp only [List.map_cons, List.map_nil, List.replicate, Nat.reduceSub, List.replicate_zero, List.cons_append, List.nil_append, Bis_name, Tis_name_0_0]
  cases d <;> first | cases h | skip
  · simp only [↓We_var, ↓We_int, ↓We_str, ↓We_bl, ↓We_non, ↓We_gl, ↓We_dspc, ↓We_fs, ↓We_tup, ↓We_lst, ↓We_op1, ↓We_op2, ↓We_sm1, ↓We_slc, ↓We_isi, ↓We_and, ↓We_or, ↓We_one, ↓We_not, ↓We_ife, ↓We_chn, ↓We_pop, ↓We_call, ↓We_callk, ↓We_comp, ↓Wr_var, ↓Wr_int, ↓Wr_str, ↓Wr_bl, ↓Wr_non, ↓Wr_gl, ↓Wr_dspc, ↓Wr_fs, ↓Wr_tup, ↓Wr_lst, ↓Wr_op1, ↓Wr_op2, ↓Wr_sm1, ↓Wr_slc, ↓Wr_isi, ↓Wr_and, ↓Wr_or, ↓Wr_not, ↓Wr_ife, ↓Wr_chn, ↓Wr_pop, ↓Wr_call, ↓Wr_callk, ↓Wr_comp, ↓Ws_set, ↓Ws_unp, ↓Ws_unps, ↓Ws_app, ↓Ws_seti, ↓Ws_setf, ↓Ws_expr, ↓Ws_ife, ↓Ws_for, ↓Ws_while, ↓Ws_ret, ↓Ws_retv, ↓Ws_retn, ↓Ws_brk, ↓Ws_cont, ↓Ws_pass, ↓Wss_cons, ↓Wss_nil, ↓Wes_nil, ↓Wes_cons, ↓Wo_none, ↓Wo_some, ↓Was_nil, ↓Was_ev, ↓Was_pk, ↓Wcall_def, catA_nil, catA_cons, ↓Wsrc_seq, ↓Wsrc_rng1, ↓Wsrc_rng2, ↓Wsrc_zip, ↓seq_nx, ↓seq_rt, ↓seq_bk, ↓seq_ct, ↓seq_ex, ↓W1_some, ↓WJ_some, ↓W1_none, ↓WJ_none, ↓Wf_fz, ↓Wf_lst, ↓Wf_dct, ↓Wf_obj, ↓Wb_bl, ↓Wi_int, ↓Wif_true, ↓Wif_false, ↓Wv_fz, ↓Wv_ow, ↓Wv_owd, ↓Wv_owo, ↓Wsem_ok, ↓setR_fz, ↓setR_fr, ↓Wrv_some, ↓Wpk_some, ↓Wunp_fz, ↓Wunps_lst, ↓WisL_lst, ↓Wapp_ow, ↓Wapp_io, ↓Wseti_ow, ↓Wseti_io, ↓Wretv_fz, ↓Wretv_ow, ↓Wpop_io, ↓Wpop_ow, ↓Wturn_none, ↓Wturn_some, ↓accO_some, ↓accO_none, ↓res_val, ↓res_pk, ↓slotD_0, ↓slotD_s, W1_some, WJ_some, W1_none, WJ_none, Wf_fz, Wf_lst, Wf_dct, Wf_obj, Wb_bl, Wi_int, Wif_true, Wif_false, Wv_fz, Wv_ow, Wv_owd, Wv_owo, Wsem_ok, setR_fz, setR_fr, Wrv_some, Wpk_some, Wunp_fz, Wunps_lst, WisL_lst, Wapp_ow, Wapp_io, Wseti_ow, Wseti_io, Wretv_fz, Wretv_ow, Wpop_io, Wpop_ow, accO_some, accO_none, Int.reduceLT, Int.reduceLE, Nat.reduceLT, Nat.reduceLeDiff, Int.reduceToNat, Int.reduceAdd, Int.reduceSub, Int.reduceMul, Int.reduceNeg, decide_true, decide_false, Bool.or_true, Bool.true_or, Bool.or_false, Bool.false_or, Bool.and_true, Bool.true_and, Bool.and_false, Bool.false_and, Bool.not_true, Bool.not_false, and_true, true_and, Option.map_some, Option.map_none, Option.bind_some, Option.bind_none, List.set_cons_zero, List.set_cons_succ, k1_len_str, k1_len_tup, k1_len_lst, k1_len_frl, k1_abs, k1_neg, k1_int, k1_intb, k1_tuple_lst, k1_tuple_tup, k1_list_lst, k1_list_tup, k1_rev, k1_isN, k1_notN, k2_add, k2_add_str, k2_add_lst, k2_sub, k1_isT, k1_notT, k2_mul, k2_muls, k2_fdiv, k2_mod, k2_pow6, k2_pow18, k2_pow12, k2_lt, k2_le, k2_gt, k2_ge, k2_eq, k2_ne, k2_in, k2_notin, k2_idx, idx_0, idx_1, idx_2, idx_3, idt_0, idt_1, idt_2, idt_3, k2_max, slc_str, slc_lst, slc_frl, seq_lst, seq_tup, seq_str, turnE_nx, turnE_ct, turnE_rt, turnE_bk, wipeD, backW, freeT_nil, freeT_cons, freeT1_none, freeT1_fz, freeT1_fzs, lockI, lockD_n, lockD_s, openD_n, openD_s, bindT_1, bindT_2, bindM, size_le, List.foldl_cons, List.foldl_nil, List.all_cons, List.all_nil, List.getElem?_cons_zero, List.getElem?_cons_succ, Option.join_some, Option.join_none, List.zip_cons_cons, List.zip_nil_left, List.length_cons, List.length_nil, List.length_append, Nat.reduceAdd, Nat.reduceEqDiff, Bool.false_eq_true, if_true, if_false, ↓reduceIte, ite_true, ite_false, ki_int_int, ki_int_str, ki_int_bool, ki_int_list, ki_int_tuple, ki_int_dict, ki_bl_int, ki_bl_str, ki_bl_bool, ki_bl_list, ki_bl_tuple, ki_bl_dict, ki_str_int, ki_str_str, ki_str_bool, ki_str_list, ki_str_tuple, ki_str_dict, ki_lst_int, ki_lst_str, ki_lst_bool, ki_lst_list, ki_lst_tuple, ki_lst_dict, ki_frl_int, ki_frl_str, ki_frl_bool, ki_frl_list, ki_frl_tuple, ki_frl_dict, ki_tup_int, ki_tup_str, ki_tup_bool, ki_tup_list, ki_tup_tuple, ki_tup_dict, ki_dct_int, ki_dct_str, ki_dct_bool, ki_dct_list, ki_dct_tuple, ki_dct_dict, ki_non_int, ki_non_str, ki_non_bool, ki_non_list, ki_non_tuple, ki_non_dict, kis_nil, kis_t, kis_f, Z.argsOf, Z.argOf, Z.backTo, Z.outsOf, List.any_nil, List.any_cons, Tis_name_1_0, nameB]
  · simp only [↓We_var, ↓We_int, ↓We_str, ↓We_bl, ↓We_non, ↓We_gl, ↓We_dspc, ↓We_fs, ↓We_tup, ↓We_lst, ↓We_op1, ↓We_op2, ↓We_sm1, ↓We_slc, ↓We_isi, ↓We_and, ↓We_or, ↓We_one, ↓We_not, ↓We_ife, ↓We_chn, ↓We_pop, ↓We_call, ↓We_callk, ↓We_comp, ↓Wr_var, ↓Wr_int, ↓Wr_str, ↓Wr_bl, ↓Wr_non, ↓Wr_gl, ↓Wr_dspc, ↓Wr_fs, ↓Wr_tup, ↓Wr_lst, ↓Wr_op1, ↓Wr_op2, ↓Wr_sm1, ↓Wr_slc, ↓Wr_isi, ↓Wr_and, ↓Wr_or, ↓Wr_not, ↓Wr_ife, ↓Wr_chn, ↓Wr_pop, ↓Wr_call, ↓Wr_callk, ↓Wr_comp, ↓Ws_set, ↓Ws_unp, ↓Ws_unps, ↓Ws_app, ↓Ws_seti, ↓Ws_setf, ↓Ws_expr, ↓Ws_ife, ↓Ws_for, ↓Ws_while, ↓Ws_ret, ↓Ws_retv, ↓Ws_retn, ↓Ws_brk, ↓Ws_cont, ↓Ws_pass, ↓Wss_cons, ↓Wss_nil, ↓Wes_nil, ↓Wes_cons, ↓Wo_none, ↓Wo_some, ↓Was_nil, ↓Was_ev, ↓Was_pk, ↓Wcall_def, catA_nil, catA_cons, ↓Wsrc_seq, ↓Wsrc_rng1, ↓Wsrc_rng2, ↓Wsrc_zip, ↓seq_nx, ↓seq_rt, ↓seq_bk, ↓seq_ct, ↓seq_ex, ↓W1_some, ↓WJ_some, ↓W1_none, ↓WJ_none, ↓Wf_fz, ↓Wf_lst, ↓Wf_dct, ↓Wf_obj, ↓Wb_bl, ↓Wi_int, ↓Wif_true, ↓Wif_false, ↓Wv_fz, ↓Wv_ow, ↓Wv_owd, ↓Wv_owo, ↓Wsem_ok, ↓setR_fz, ↓setR_fr, ↓Wrv_some, ↓Wpk_some, ↓Wunp_fz, ↓Wunps_lst, ↓WisL_lst, ↓Wapp_ow, ↓Wapp_io, ↓Wseti_ow, ↓Wseti_io, ↓Wretv_fz, ↓Wretv_ow, ↓Wpop_io, ↓Wpop_ow, ↓Wturn_none, ↓Wturn_some, ↓accO_some, ↓accO_none, ↓res_val, ↓res_pk, ↓slotD_0, ↓slotD_s, W1_some, WJ_some, W1_none, WJ_none, Wf_fz, Wf_lst, Wf_dct, Wf_obj, Wb_bl, Wi_int, Wif_true, Wif_false, Wv_fz, Wv_ow, Wv_owd, Wv_owo, Wsem_ok, setR_fz, setR_fr, Wrv_some, Wpk_some, Wunp_fz, Wunps_lst, WisL_lst, Wapp_ow, Wapp_io, Wseti_ow, Wseti_io, Wretv_fz, Wretv_ow, Wpop_io, Wpop_ow, accO_some, accO_none, Int.reduceLT, Int.reduceLE, Nat.reduceLT, Nat.reduceLeDiff, Int.reduceToNat, Int.reduceAdd, Int.reduceSub, Int.reduceMul, Int.reduceNeg, decide_true, decide_false, Bool.or_true, Bool.true_or, Bool.or_false, Bool.false_or, Bool.and_true, Bool.true_and, Bool.and_false, Bool.false_and, Bool.not_true, Bool.not_false, and_true, true_and, Option.map_some, Option.map_none, Option.bind_some, Option.bind_none, List.set_cons_zero, List.set_cons_succ, k1_len_str, k1_len_tup, k1_len_lst, k1_len_frl, k1_abs, k1_neg, k1_int, k1_intb, k1_tuple_lst, k1_tuple_tup, k1_list_lst, k1_list_tup, k1_rev, k1_isN, k1_notN, k2_add, k2_add_str, k2_add_lst, k2_sub, k1_isT, k1_notT, k2_mul, k2_muls, k2_fdiv, k2_mod, k2_pow6, k2_pow18, k2_pow12, k2_lt, k2_le, k2_gt, k2_ge, k2_eq, k2_ne, k2_in, k2_notin, k2_idx, idx_0, idx_1, idx_2, idx_3, idt_0, idt_1, idt_2, idt_3, k2_max, slc_str, slc_lst, slc_frl, seq_lst, seq_tup, seq_str, turnE_nx, turnE_ct, turnE_rt, turnE_bk, wipeD, backW, freeT_nil, freeT_cons, freeT1_none, freeT1_fz, freeT1_fzs, lockI, lockD_n, lockD_s, openD_n, openD_s, bindT_1, bindT_2, bindM, size_le, List.foldl_cons, List.foldl_nil, List.all_cons, List.all_nil, List.getElem?_cons_zero, List.getElem?_cons_succ, Option.join_some, Option.join_none, List.zip_cons_cons, List.zip_nil_left, List.length_cons, List.length_nil, List.length_append, Nat.reduceAdd, Nat.reduceEqDiff, Bool.false_eq_true, if_true, if_false, ↓reduceIte, ite_true, ite_false, ki_int_int, ki_int_str, ki_int_bool, ki_int_list, ki_int_tuple, ki_int_dict, ki_bl_int, ki_bl_str, ki_bl_bool, ki_bl_list, ki_bl_tuple, ki_bl_dict, ki_str_int, ki_str_str, ki_str_bool, ki_str_list, ki_str_tuple, ki_str_dict, ki_lst_int, ki_lst_str, ki_lst_bool, ki_lst_list, ki_lst_tuple, ki_lst_dict, ki_frl_int, ki_frl_str, ki_frl_bool, ki_frl_list, ki_frl_tuple, ki_frl_dict, ki_tup_int, ki_tup_str, ki_tup_bool, ki_tup_list, ki_tup_tuple, ki_tup_dict, ki_dct_int, ki_dct_str, ki_dct_bool, ki_dct_list, ki_dct_tuple, ki_dct_dict, ki_non_int, ki_non_str, ki_non_bool, ki_non_list, ki_non_tuple, ki_non_dict, kis_nil, kis_t, kis_f, Z.argsOf, Z.argOf, Z.backTo, Z.outsOf, List.any_nil, List.any_cons, Tis_name_1_0, nameB]
  · simp only [↓We_var, ↓We_int, ↓We_str, ↓We_bl, ↓We_non, ↓We_gl, ↓We_dspc, ↓We_fs, ↓We_tup, ↓We_lst, ↓We_op1, ↓We_op2, ↓We_sm1, ↓We_slc, ↓We_isi, ↓We_and, ↓We_or, ↓We_one, ↓We_not, ↓We_ife, ↓We_chn, ↓We_pop, ↓We_call, ↓We_callk, ↓We_comp, ↓Wr_var, ↓Wr_int, ↓Wr_str, ↓Wr_bl, ↓Wr_non, ↓Wr_gl, ↓Wr_dspc, ↓Wr_fs, ↓Wr_tup, ↓Wr_lst, ↓Wr_op1, ↓Wr_op2, ↓Wr_sm1, ↓Wr_slc, ↓Wr_isi, ↓Wr_and, ↓Wr_or, ↓Wr_not, ↓Wr_ife, ↓Wr_chn, ↓Wr_pop, ↓Wr_call, ↓Wr_callk, ↓Wr_comp, ↓Ws_set, ↓Ws_unp, ↓Ws_unps, ↓Ws_app, ↓Ws_seti, ↓Ws_setf, ↓Ws_expr, ↓Ws_ife, ↓Ws_for, ↓Ws_while, ↓Ws_ret, ↓Ws_retv, ↓Ws_retn, ↓Ws_brk, ↓Ws_cont, ↓Ws_pass, ↓Wss_cons, ↓Wss_nil, ↓Wes_nil, ↓Wes_cons, ↓Wo_none, ↓Wo_some, ↓Was_nil, ↓Was_ev, ↓Was_pk, ↓Wcall_def, catA_nil, catA_cons, ↓Wsrc_seq, ↓Wsrc_rng1, ↓Wsrc_rng2, ↓Wsrc_zip, ↓seq_nx, ↓seq_rt, ↓seq_bk, ↓seq_ct, ↓seq_ex, ↓W1_some, ↓WJ_some, ↓W1_none, ↓WJ_none, ↓Wf_fz, ↓Wf_lst, ↓Wf_dct, ↓Wf_obj, ↓Wb_bl, ↓Wi_int, ↓Wif_true, ↓Wif_false, ↓Wv_fz, ↓Wv_ow, ↓Wv_owd, ↓Wv_owo, ↓Wsem_ok, ↓setR_fz, ↓setR_fr, ↓Wrv_some, ↓Wpk_some, ↓Wunp_fz, ↓Wunps_lst, ↓WisL_lst, ↓Wapp_ow, ↓Wapp_io, ↓Wseti_ow, ↓Wseti_io, ↓Wretv_fz, ↓Wretv_ow, ↓Wpop_io, ↓Wpop_ow, ↓Wturn_none, ↓Wturn_some, ↓accO_some, ↓accO_none, ↓res_val, ↓res_pk, ↓slotD_0, ↓slotD_s, W1_some, WJ_some, W1_none, WJ_none, Wf_fz, Wf_lst, Wf_dct, Wf_obj, Wb_bl, Wi_int, Wif_true, Wif_false, Wv_fz, Wv_ow, Wv_owd, Wv_owo, Wsem_ok, setR_fz, setR_fr, Wrv_some, Wpk_some, Wunp_fz, Wunps_lst, WisL_lst, Wapp_ow, Wapp_io, Wseti_ow, Wseti_io, Wretv_fz, Wretv_ow, Wpop_io, Wpop_ow, accO_some, accO_none, Int.reduceLT, Int.reduceLE, Nat.reduceLT, Nat.reduceLeDiff, Int.reduceToNat, Int.reduceAdd, Int.reduceSub, Int.reduceMul, Int.reduceNeg, decide_true, decide_false, Bool.or_true, Bool.true_or, Bool.or_false, Bool.false_or, Bool.and_true, Bool.true_and, Bool.and_false, Bool.false_and, Bool.not_true, Bool.not_false, and_true, true_and, Option.map_some, Option.map_none, Option.bind_some, Option.bind_none, List.set_cons_zero, List.set_cons_succ, k1_len_str, k1_len_tup, k1_len_lst, k1_len_frl, k1_abs, k1_neg, k1_int, k1_intb, k1_tuple_lst, k1_tuple_tup, k1_list_lst, k1_list_tup, k1_rev, k1_isN, k1_notN, k2_add, k2_add_str, k2_add_lst, k2_sub, k1_isT, k1_notT, k2_mul, k2_muls, k2_fdiv, k2_mod, k2_pow6, k2_pow18, k2_pow12, k2_lt, k2_le, k2_gt, k2_ge, k2_eq, k2_ne, k2_in, k2_notin, k2_idx, idx_0, idx_1, idx_2, idx_3, idt_0, idt_1, idt_2, idt_3, k2_max, slc_str, slc_lst, slc_frl, seq_lst, seq_tup, seq_str, turnE_nx, turnE_ct, turnE_rt, turnE_bk, wipeD, backW, freeT_nil, freeT_cons, freeT1_none, freeT1_fz, freeT1_fzs, lockI, lockD_n, lockD_s, openD_n, openD_s, bindT_1, bindT_2, bindM, size_le, List.foldl_cons, List.foldl_nil, List.all_cons, List.all_nil, List.getElem?_cons_zero, List.getElem?_cons_succ, Option.join_some, Option.join_none, List.zip_cons_cons, List.zip_nil_left, List.length_cons, List.length_nil, List.length_append, Nat.reduceAdd, Nat.reduceEqDiff, Bool.false_eq_true, if_true, if_false, ↓reduceIte, ite_true, ite_false, ki_int_int, ki_int_str, ki_int_bool, ki_int_list, ki_int_tuple, ki_int_dict, ki_bl_int, ki_bl_str, ki_bl_bool, ki_bl_list, ki_bl_tuple, ki_bl_dict, ki_str_int, ki_str_str, ki_str_bool, ki_str_list, ki_str_tuple, ki_str_dict, ki_lst_int, ki_lst_str, ki_lst_bool, ki_lst_list, ki_lst_tuple, ki_lst_dict, ki_frl_int, ki_frl_str, ki_frl_bool, ki_frl_list, ki_frl_tuple, ki_frl_dict, ki_tup_int, ki_tup_str, ki_tup_bool, ki_tup_list, ki_tup_tuple, ki_tup_dict, ki_dct_int, ki_dct_str, ki_dct_bool, ki_dct_list, ki_dct_tuple, ki_dct_dict, ki_non_int, ki_non_str, ki_non_bool, ki_non_list, ki_non_tuple, ki_non_dict, kis_nil, kis_t, kis_f, Z.argsOf, Z.argOf, Z.backTo, Z.outsOf, List.any_nil, List.any_cons, Tis_name_1_0, nameB]
  · rename_i s
    have hs := hs s rfl
    have hall := spl_all [64] s 0 [] (P := fun c => c < 1114112) (by simp) hs.1
    obtain ⟨hl1, hl2⟩ := spl_lens [64] s 0 []
    have hne := spl_ne [64] s 0 []
    have hok : ∀ p ∈ TL.spl [64] 0 [] s, Ok p := fun p hp => ⟨hall p hp, by have := hl2 p hp; have := hs.2; simp at *; omega⟩
    simp only [↓We_var, ↓We_int, ↓We_str, ↓We_bl, ↓We_non, ↓We_gl, ↓We_dspc, ↓We_fs, ↓We_tup, ↓We_lst, ↓We_op1, ↓We_op2, ↓We_sm1, ↓We_slc, ↓We_isi, ↓We_and, ↓We_or, ↓We_one, ↓We_not, ↓We_ife, ↓We_chn, ↓We_pop, ↓We_call, ↓We_callk, ↓We_comp, ↓Wr_var, ↓Wr_int, ↓Wr_str, ↓Wr_bl, ↓Wr_non, ↓Wr_gl, ↓Wr_dspc, ↓Wr_fs, ↓Wr_tup, ↓Wr_lst, ↓Wr_op1, ↓Wr_op2, ↓Wr_sm1, ↓Wr_slc, ↓Wr_isi, ↓Wr_and, ↓Wr_or, ↓Wr_not, ↓Wr_ife, ↓Wr_chn, ↓Wr_pop, ↓Wr_call, ↓Wr_callk, ↓Wr_comp, ↓Ws_set, ↓Ws_unp, ↓Ws_unps, ↓Ws_app, ↓Ws_seti, ↓Ws_setf, ↓Ws_expr, ↓Ws_ife, ↓Ws_for, ↓Ws_while, ↓Ws_ret, ↓Ws_retv, ↓Ws_retn, ↓Ws_brk, ↓Ws_cont, ↓Ws_pass, ↓Wss_cons, ↓Wss_nil, ↓Wes_nil, ↓Wes_cons, ↓Wo_none, ↓Wo_some, ↓Was_nil, ↓Was_ev, ↓Was_pk, ↓Wcall_def, catA_nil, catA_cons, ↓Wsrc_seq, ↓Wsrc_rng1, ↓Wsrc_rng2, ↓Wsrc_zip, ↓seq_nx, ↓seq_rt, ↓seq_bk, ↓seq_ct, ↓seq_ex, ↓W1_some, ↓WJ_some, ↓W1_none, ↓WJ_none, ↓Wf_fz, ↓Wf_lst, ↓Wf_dct, ↓Wf_obj, ↓Wb_bl, ↓Wi_int, ↓Wif_true, ↓Wif_false, ↓Wv_fz, ↓Wv_ow, ↓Wv_owd, ↓Wv_owo, ↓Wsem_ok, ↓setR_fz, ↓setR_fr, ↓Wrv_some, ↓Wpk_some, ↓Wunp_fz, ↓Wunps_lst, ↓WisL_lst, ↓Wapp_ow, ↓Wapp_io, ↓Wseti_ow, ↓Wseti_io, ↓Wretv_fz, ↓Wretv_ow, ↓Wpop_io, ↓Wpop_ow, ↓Wturn_none, ↓Wturn_some, ↓accO_some, ↓accO_none, ↓res_val, ↓res_pk, ↓slotD_0, ↓slotD_s, W1_some, WJ_some, W1_none, WJ_none, Wf_fz, Wf_lst, Wf_dct, Wf_obj, Wb_bl, Wi_int, Wif_true, Wif_false, Wv_fz, Wv_ow, Wv_owd, Wv_owo, Wsem_ok, setR_fz, setR_fr, Wrv_some, Wpk_some, Wunp_fz, Wunps_lst, WisL_lst, Wapp_ow, Wapp_io, Wseti_ow, Wseti_io, Wretv_fz, Wretv_ow, Wpop_io, Wpop_ow, accO_some, accO_none, Int.reduceLT, Int.reduceLE, Nat.reduceLT, Nat.reduceLeDiff, Int.reduceToNat, Int.reduceAdd, Int.reduceSub, Int.reduceMul, Int.reduceNeg, decide_true, decide_false, Bool.or_true, Bool.true_or, Bool.or_false, Bool.false_or, Bool.and_true, Bool.true_and, Bool.and_false, Bool.false_and, Bool.not_true, Bool.not_false, and_true, true_and, Option.map_some, Option.map_none, Option.bind_some, Option.bind_none, List.set_cons_zero, List.set_cons_succ, k1_len_str, k1_len_tup, k1_len_lst, k1_len_frl, k1_abs, k1_neg, k1_int, k1_intb, k1_tuple_lst, k1_tuple_tup, k1_list_lst, k1_list_tup, k1_rev, k1_isN, k1_notN, k2_add, k2_add_str, k2_add_lst, k2_sub, k1_isT, k1_notT, k2_mul, k2_muls, k2_fdiv, k2_mod, k2_pow6, k2_pow18, k2_pow12, k2_lt, k2_le, k2_gt, k2_ge, k2_eq, k2_ne, k2_in, k2_notin, k2_idx, idx_0, idx_1, idx_2, idx_3, idt_0, idt_1, idt_2, idt_3, k2_max, slc_str, slc_lst, slc_frl, seq_lst, seq_tup, seq_str, turnE_nx, turnE_ct, turnE_rt, turnE_bk, wipeD, backW, freeT_nil, freeT_cons, freeT1_none, freeT1_fz, freeT1_fzs, lockI, lockD_n, lockD_s, openD_n, openD_s, bindT_1, bindT_2, bindM, size_le, List.foldl_cons, List.foldl_nil, List.all_cons, List.all_nil, List.getElem?_cons_zero, List.getElem?_cons_succ, Option.join_some, Option.join_none, List.zip_cons_cons, List.zip_nil_left, List.length_cons, List.length_nil, List.length_append, Nat.reduceAdd, Nat.reduceEqDiff, Bool.false_eq_true, if_true, if_false, ↓reduceIte, ite_true, ite_false, ki_int_int, ki_int_str, ki_int_bool, ki_int_list, ki_int_tuple, ki_int_dict, ki_bl_int, ki_bl_str, ki_bl_bool, ki_bl_list, ki_bl_tuple, ki_bl_dict, ki_str_int, ki_str_str, ki_str_bool, ki_str_list, ki_str_tuple, ki_str_dict, ki_lst_int, ki_lst_str, ki_lst_bool, ki_lst_list, ki_lst_tuple, ki_lst_dict, ki_frl_int, ki_frl_str, ki_frl_bool, ki_frl_list, ki_frl_tuple, ki_frl_dict, ki_tup_int, ki_tup_str, ki_tup_bool, ki_tup_list, ki_tup_tuple, ki_tup_dict, ki_dct_int, ki_dct_str, ki_dct_bool, ki_dct_list, ki_dct_tuple, ki_dct_dict, ki_non_int, ki_non_str, ki_non_bool, ki_non_list, ki_non_tuple, ki_non_dict, kis_nil, kis_t, kis_f, Z.argsOf, Z.argOf, Z.backTo, Z.outsOf, List.any_nil, List.any_cons, Tis_name_0_1, m1_split (s := s) (y := [64]) (by simp) (by decide) (Nat.le_trans hs.2 (by decide))]
    rw [nameB]
    have hlen : (TL.spl [64] 0 [] s).length ≤ 1001 := Nat.le_trans hl1 (by have := hs.2; omega)
    generalize TL.spl [64] 0 [] s = ps at hok hne hlen
    cases ps with
    | nil => exact absurd rfl hne
    | cons w ms =>
      have hlen' : ms.length ≤ 1000 := by simpa using hlen
      refine ⟨by simp; omega, ?_⟩
      have hw := hok w (by simp)
      simp only [List.map_cons, ↓starD_12, starD_12, ↓We_var, ↓We_int, ↓We_str, ↓We_bl, ↓We_non, ↓We_gl, ↓We_dspc, ↓We_fs, ↓We_tup, ↓We_lst, ↓We_op1, ↓We_op2, ↓We_sm1, ↓We_slc, ↓We_isi, ↓We_and, ↓We_or, ↓We_one, ↓We_not, ↓We_ife, ↓We_chn, ↓We_pop, ↓We_call, ↓We_callk, ↓We_comp, ↓Wr_var, ↓Wr_int, ↓Wr_str, ↓Wr_bl, ↓Wr_non, ↓Wr_gl, ↓Wr_dspc, ↓Wr_fs, ↓Wr_tup, ↓Wr_lst, ↓Wr_op1, ↓Wr_op2, ↓Wr_sm1, ↓Wr_slc, ↓Wr_isi, ↓Wr_and, ↓Wr_or, ↓Wr_not, ↓Wr_ife, ↓Wr_chn, ↓Wr_pop, ↓Wr_call, ↓Wr_callk, ↓Wr_comp, ↓Ws_set, ↓Ws_unp, ↓Ws_unps, ↓Ws_app, ↓Ws_seti, ↓Ws_setf, ↓Ws_expr, ↓Ws_ife, ↓Ws_for, ↓Ws_while, ↓Ws_ret, ↓Ws_retv, ↓Ws_retn, ↓Ws_brk, ↓Ws_cont, ↓Ws_pass, ↓Wss_cons, ↓Wss_nil, ↓Wes_nil, ↓Wes_cons, ↓Wo_none, ↓Wo_some, ↓Was_nil, ↓Was_ev, ↓Was_pk, ↓Wcall_def, catA_nil, catA_cons, ↓Wsrc_seq, ↓Wsrc_rng1, ↓Wsrc_rng2, ↓Wsrc_zip, ↓seq_nx, ↓seq_rt, ↓seq_bk, ↓seq_ct, ↓seq_ex, ↓W1_some, ↓WJ_some, ↓W1_none, ↓WJ_none, ↓Wf_fz, ↓Wf_lst, ↓Wf_dct, ↓Wf_obj, ↓Wb_bl, ↓Wi_int, ↓Wif_true, ↓Wif_false, ↓Wv_fz, ↓Wv_ow, ↓Wv_owd, ↓Wv_owo, ↓Wsem_ok, ↓setR_fz, ↓setR_fr, ↓Wrv_some, ↓Wpk_some, ↓Wunp_fz, ↓Wunps_lst, ↓WisL_lst, ↓Wapp_ow, ↓Wapp_io, ↓Wseti_ow, ↓Wseti_io, ↓Wretv_fz, ↓Wretv_ow, ↓Wpop_io, ↓Wpop_ow, ↓Wturn_none, ↓Wturn_some, ↓accO_some, ↓accO_none, ↓res_val, ↓res_pk, ↓slotD_0, ↓slotD_s, W1_some, WJ_some, W1_none, WJ_none, Wf_fz, Wf_lst, Wf_dct, Wf_obj, Wb_bl, Wi_int, Wif_true, Wif_false, Wv_fz, Wv_ow, Wv_owd, Wv_owo, Wsem_ok, setR_fz, setR_fr, Wrv_some, Wpk_some, Wunp_fz, Wunps_lst, WisL_lst, Wapp_ow, Wapp_io, Wseti_ow, Wseti_io, Wretv_fz, Wretv_ow, Wpop_io, Wpop_ow, accO_some, accO_none, Int.reduceLT, Int.reduceLE, Nat.reduceLT, Nat.reduceLeDiff, Int.reduceToNat, Int.reduceAdd, Int.reduceSub, Int.reduceMul, Int.reduceNeg, decide_true, decide_false, Bool.or_true, Bool.true_or, Bool.or_false, Bool.false_or, Bool.and_true, Bool.true_and, Bool.and_false, Bool.false_and, Bool.not_true, Bool.not_false, and_true, true_and, Option.map_some, Option.map_none, Option.bind_some, Option.bind_none, List.set_cons_zero, List.set_cons_succ, k1_len_str, k1_len_tup, k1_len_lst, k1_len_frl, k1_abs, k1_neg, k1_int, k1_intb, k1_tuple_lst, k1_tuple_tup, k1_list_lst, k1_list_tup, k1_rev, k1_isN, k1_notN, k2_add, k2_add_str, k2_add_lst, k2_sub, k1_isT, k1_notT, k2_mul, k2_muls, k2_fdiv, k2_mod, k2_pow6, k2_pow18, k2_pow12, k2_lt, k2_le, k2_gt, k2_ge, k2_eq, k2_ne, k2_in, k2_notin, k2_idx, idx_0, idx_1, idx_2, idx_3, idt_0, idt_1, idt_2, idt_3, k2_max, slc_str, slc_lst, slc_frl, seq_lst, seq_tup, seq_str, turnE_nx, turnE_ct, turnE_rt, turnE_bk, wipeD, backW, freeT_nil, freeT_cons, freeT1_none, freeT1_fz, freeT1_fzs, lockI, lockD_n, lockD_s, openD_n, openD_s, bindT_1, bindT_2, bindM, size_le, List.foldl_cons, List.foldl_nil, List.all_cons, List.all_nil, List.getElem?_cons_zero, List.getElem?_cons_succ, Option.join_some, Option.join_none, List.zip_cons_cons, List.zip_nil_left, List.length_cons, List.length_nil, List.length_append, Nat.reduceAdd, Nat.reduceEqDiff, Bool.false_eq_true, if_true, if_false, ↓reduceIte, ite_true, ite_false, ki_int_int, ki_int_str, ki_int_bool, ki_int_list, ki_int_tuple, ki_int_dict, ki_bl_int, ki_bl_str, ki_bl_bool, ki_bl_list, ki_bl_tuple, ki_bl_dict, ki_str_int, ki_str_str, ki_str_bool, ki_str_list, ki_str_tuple, ki_str_dict, ki_lst_int, ki_lst_str, ki_lst_bool, ki_lst_list, ki_lst_tuple, ki_lst_dict, ki_frl_int, ki_frl_str, ki_frl_bool, ki_frl_list, ki_frl_tuple, ki_frl_dict, ki_tup_int, ki_tup_str, ki_tup_bool, ki_tup_list, ki_tup_tuple, ki_tup_dict, ki_dct_int, ki_dct_str, ki_dct_bool, ki_dct_list, ki_dct_tuple, ki_dct_dict, ki_non_int, ki_non_str, ki_non_bool, ki_non_list, ki_non_tuple, ki_non_dict, kis_nil, kis_t, kis_f, Z.argsOf, Z.argOf, Z.backTo, Z.outsOf, List.any_nil, List.any_cons, Tis_name_0_2, is_word_ok hw]
      refine ⟨fun h1 => ?_, fun h1 => ?_⟩
      · refine Wcomp.fm ms D.str (fun m => some (.bl (markB m))) rfl (Nat.le_trans hlen' (by decide)) rfl rfl ?_ rfl ?_
        · intro m hm
          simp only [↓We_var, ↓We_int, ↓We_str, ↓We_bl, ↓We_non, ↓We_gl, ↓We_dspc, ↓We_fs, ↓We_tup, ↓We_lst, ↓We_op1, ↓We_op2, ↓We_sm1, ↓We_slc, ↓We_isi, ↓We_and, ↓We_or, ↓We_one, ↓We_not, ↓We_ife, ↓We_chn, ↓We_pop, ↓We_call, ↓We_callk, ↓We_comp, ↓Wr_var, ↓Wr_int, ↓Wr_str, ↓Wr_bl, ↓Wr_non, ↓Wr_gl, ↓Wr_dspc, ↓Wr_fs, ↓Wr_tup, ↓Wr_lst, ↓Wr_op1, ↓Wr_op2, ↓Wr_sm1, ↓Wr_slc, ↓Wr_isi, ↓Wr_and, ↓Wr_or, ↓Wr_not, ↓Wr_ife, ↓Wr_chn, ↓Wr_pop, ↓Wr_call, ↓Wr_callk, ↓Wr_comp, ↓Ws_set, ↓Ws_unp, ↓Ws_unps, ↓Ws_app, ↓Ws_seti, ↓Ws_setf, ↓Ws_expr, ↓Ws_ife, ↓Ws_for, ↓Ws_while, ↓Ws_ret, ↓Ws_retv, ↓Ws_retn, ↓Ws_brk, ↓Ws_cont, ↓Ws_pass, ↓Wss_cons, ↓Wss_nil, ↓Wes_nil, ↓Wes_cons, ↓Wo_none, ↓Wo_some, ↓Was_nil, ↓Was_ev, ↓Was_pk, ↓Wcall_def, catA_nil, catA_cons, ↓Wsrc_seq, ↓Wsrc_rng1, ↓Wsrc_rng2, ↓Wsrc_zip, ↓seq_nx, ↓seq_rt, ↓seq_bk, ↓seq_ct, ↓seq_ex, ↓W1_some, ↓WJ_some, ↓W1_none, ↓WJ_none, ↓Wf_fz, ↓Wf_lst, ↓Wf_dct, ↓Wf_obj, ↓Wb_bl, ↓Wi_int, ↓Wif_true, ↓Wif_false, ↓Wv_fz, ↓Wv_ow, ↓Wv_owd, ↓Wv_owo, ↓Wsem_ok, ↓setR_fz, ↓setR_fr, ↓Wrv_some, ↓Wpk_some, ↓Wunp_fz, ↓Wunps_lst, ↓WisL_lst, ↓Wapp_ow, ↓Wapp_io, ↓Wseti_ow, ↓Wseti_io, ↓Wretv_fz, ↓Wretv_ow, ↓Wpop_io, ↓Wpop_ow, ↓Wturn_none, ↓Wturn_some, ↓accO_some, ↓accO_none, ↓res_val, ↓res_pk, ↓slotD_0, ↓slotD_s, W1_some, WJ_some, W1_none, WJ_none, Wf_fz, Wf_lst, Wf_dct, Wf_obj, Wb_bl, Wi_int, Wif_true, Wif_false, Wv_fz, Wv_ow, Wv_owd, Wv_owo, Wsem_ok, setR_fz, setR_fr, Wrv_some, Wpk_some, Wunp_fz, Wunps_lst, WisL_lst, Wapp_ow, Wapp_io, Wseti_ow, Wseti_io, Wretv_fz, Wretv_ow, Wpop_io, Wpop_ow, accO_some, accO_none, Int.reduceLT, Int.reduceLE, Nat.reduceLT, Nat.reduceLeDiff, Int.reduceToNat, Int.reduceAdd, Int.reduceSub, Int.reduceMul, Int.reduceNeg, decide_true, decide_false, Bool.or_true, Bool.true_or, Bool.or_false, Bool.false_or, Bool.and_true, Bool.true_and, Bool.and_false, Bool.false_and, Bool.not_true, Bool.not_false, and_true, true_and, Option.map_some, Option.map_none, Option.bind_some, Option.bind_none, List.set_cons_zero, List.set_cons_succ, k1_len_str, k1_len_tup, k1_len_lst, k1_len_frl, k1_abs, k1_neg, k1_int, k1_intb, k1_tuple_lst, k1_tuple_tup, k1_list_lst, k1_list_tup, k1_rev, k1_isN, k1_notN, k2_add, k2_add_str, k2_add_lst, k2_sub, k1_isT, k1_notT, k2_mul, k2_muls, k2_fdiv, k2_mod, k2_pow6, k2_pow18, k2_pow12, k2_lt, k2_le, k2_gt, k2_ge, k2_eq, k2_ne, k2_in, k2_notin, k2_idx, idx_0, idx_1, idx_2, idx_3, idt_0, idt_1, idt_2, idt_3, k2_max, slc_str, slc_lst, slc_frl, seq_lst, seq_tup, seq_str, turnE_nx, turnE_ct, turnE_rt, turnE_bk, wipeD, backW, freeT_nil, freeT_cons, freeT1_none, freeT1_fz, freeT1_fzs, lockI, lockD_n, lockD_s, openD_n, openD_s, bindT_1, bindT_2, bindM, size_le, List.foldl_cons, List.foldl_nil, List.all_cons, List.all_nil, List.getElem?_cons_zero, List.getElem?_cons_succ, Option.join_some, Option.join_none, List.zip_cons_cons, List.zip_nil_left, List.length_cons, List.length_nil, List.length_append, Nat.reduceAdd, Nat.reduceEqDiff, Bool.false_eq_true, if_true, if_false, ↓reduceIte, ite_true, ite_false, ki_int_int, ki_int_str, ki_int_bool, ki_int_list, ki_int_tuple, ki_int_dict, ki_bl_int, ki_bl_str, ki_bl_bool, ki_bl_list, ki_bl_tuple, ki_bl_dict, ki_str_int, ki_str_str, ki_str_bool, ki_str_list, ki_str_tuple, ki_str_dict, ki_lst_int, ki_lst_str, ki_lst_bool, ki_lst_list, ki_lst_tuple, ki_lst_dict, ki_frl_int, ki_frl_str, ki_frl_bool, ki_frl_list, ki_frl_tuple, ki_frl_dict, ki_tup_int, ki_tup_str, ki_tup_bool, ki_tup_list, ki_tup_tuple, ki_tup_dict, ki_dct_int, ki_dct_str, ki_dct_bool, ki_dct_list, ki_dct_tuple, ki_dct_dict, ki_non_int, ki_non_str, ki_non_bool, ki_non_list, ki_non_tuple, ki_non_dict, kis_nil, kis_t, kis_f, Z.argsOf, Z.argOf, Z.backTo, Z.outsOf, List.any_nil, List.any_cons, is_mark_ok (hok m (List.mem_cons_of_mem _ hm))]
        · simp only [↓We_var, ↓We_int, ↓We_str, ↓We_bl, ↓We_non, ↓We_gl, ↓We_dspc, ↓We_fs, ↓We_tup, ↓We_lst, ↓We_op1, ↓We_op2, ↓We_sm1, ↓We_slc, ↓We_isi, ↓We_and, ↓We_or, ↓We_one, ↓We_not, ↓We_ife, ↓We_chn, ↓We_pop, ↓We_call, ↓We_callk, ↓We_comp, ↓Wr_var, ↓Wr_int, ↓Wr_str, ↓Wr_bl, ↓Wr_non, ↓Wr_gl, ↓Wr_dspc, ↓Wr_fs, ↓Wr_tup, ↓Wr_lst, ↓Wr_op1, ↓Wr_op2, ↓Wr_sm1, ↓Wr_slc, ↓Wr_isi, ↓Wr_and, ↓Wr_or, ↓Wr_not, ↓Wr_ife, ↓Wr_chn, ↓Wr_pop, ↓Wr_call, ↓Wr_callk, ↓Wr_comp, ↓Ws_set, ↓Ws_unp, ↓Ws_unps, ↓Ws_app, ↓Ws_seti, ↓Ws_setf, ↓Ws_expr, ↓Ws_ife, ↓Ws_for, ↓Ws_while, ↓Ws_ret, ↓Ws_retv, ↓Ws_retn, ↓Ws_brk, ↓Ws_cont, ↓Ws_pass, ↓Wss_cons, ↓Wss_nil, ↓Wes_nil, ↓Wes_cons, ↓Wo_none, ↓Wo_some, ↓Was_nil, ↓Was_ev, ↓Was_pk, ↓Wcall_def, catA_nil, catA_cons, ↓Wsrc_seq, ↓Wsrc_rng1, ↓Wsrc_rng2, ↓Wsrc_zip, ↓seq_nx, ↓seq_rt, ↓seq_bk, ↓seq_ct, ↓seq_ex, ↓W1_some, ↓WJ_some, ↓W1_none, ↓WJ_none, ↓Wf_fz, ↓Wf_lst, ↓Wf_dct, ↓Wf_obj, ↓Wb_bl, ↓Wi_int, ↓Wif_true, ↓Wif_false, ↓Wv_fz, ↓Wv_ow, ↓Wv_owd, ↓Wv_owo, ↓Wsem_ok, ↓setR_fz, ↓setR_fr, ↓Wrv_some, ↓Wpk_some, ↓Wunp_fz, ↓Wunps_lst, ↓WisL_lst, ↓Wapp_ow, ↓Wapp_io, ↓Wseti_ow, ↓Wseti_io, ↓Wretv_fz, ↓Wretv_ow, ↓Wpop_io, ↓Wpop_ow, ↓Wturn_none, ↓Wturn_some, ↓accO_some, ↓accO_none, ↓res_val, ↓res_pk, ↓slotD_0, ↓slotD_s, W1_some, WJ_some, W1_none, WJ_none, Wf_fz, Wf_lst, Wf_dct, Wf_obj, Wb_bl, Wi_int, Wif_true, Wif_false, Wv_fz, Wv_ow, Wv_owd, Wv_owo, Wsem_ok, setR_fz, setR_fr, Wrv_some, Wpk_some, Wunp_fz, Wunps_lst, WisL_lst, Wapp_ow, Wapp_io, Wseti_ow, Wseti_io, Wretv_fz, Wretv_ow, Wpop_io, Wpop_ow, accO_some, accO_none, Int.reduceLT, Int.reduceLE, Nat.reduceLT, Nat.reduceLeDiff, Int.reduceToNat, Int.reduceAdd, Int.reduceSub, Int.reduceMul, Int.reduceNeg, decide_true, decide_false, Bool.or_true, Bool.true_or, Bool.or_false, Bool.false_or, Bool.and_true, Bool.true_and, Bool.and_false, Bool.false_and, Bool.not_true, Bool.not_false, and_true, true_and, Option.map_some, Option.map_none, Option.bind_some, Option.bind_none, List.set_cons_zero, List.set_cons_succ, k1_len_str, k1_len_tup, k1_len_lst, k1_len_frl, k1_abs, k1_neg, k1_int, k1_intb, k1_tuple_lst, k1_tuple_tup, k1_list_lst, k1_list_tup, k1_rev, k1_isN, k1_notN, k2_add, k2_add_str, k2_add_lst, k2_sub, k1_isT, k1_notT, k2_mul, k2_muls, k2_fdiv, k2_mod, k2_pow6, k2_pow18, k2_pow12, k2_lt, k2_le, k2_gt, k2_ge, k2_eq, k2_ne, k2_in, k2_notin, k2_idx, idx_0, idx_1, idx_2, idx_3, idt_0, idt_1, idt_2, idt_3, k2_max, slc_str, slc_lst, slc_frl, seq_lst, seq_tup, seq_str, turnE_nx, turnE_ct, turnE_rt, turnE_bk, wipeD, backW, freeT_nil, freeT_cons, freeT1_none, freeT1_fz, freeT1_fzs, lockI, lockD_n, lockD_s, openD_n, openD_s, bindT_1, bindT_2, bindM, size_le, List.foldl_cons, List.foldl_nil, List.all_cons, List.all_nil, List.getElem?_cons_zero, List.getElem?_cons_succ, Option.join_some, Option.join_none, List.zip_cons_cons, List.zip_nil_left, List.length_cons, List.length_nil, List.length_append, Nat.reduceAdd, Nat.reduceEqDiff, Bool.false_eq_true, if_true, if_false, ↓reduceIte, ite_true, ite_false, ki_int_int, ki_int_str, ki_int_bool, ki_int_list, ki_int_tuple, ki_int_dict, ki_bl_int, ki_bl_str, ki_bl_bool, ki_bl_list, ki_bl_tuple, ki_bl_dict, ki_str_int, ki_str_str, ki_str_bool, ki_str_list, ki_str_tuple, ki_str_dict, ki_lst_int, ki_lst_str, ki_lst_bool, ki_lst_list, ki_lst_tuple, ki_lst_dict, ki_frl_int, ki_frl_str, ki_frl_bool, ki_frl_list, ki_frl_tuple, ki_frl_dict, ki_tup_int, ki_tup_str, ki_tup_bool, ki_tup_list, ki_tup_tuple, ki_tup_dict, ki_dct_int, ki_dct_str, ki_dct_bool, ki_dct_list, ki_dct_tuple, ki_dct_dict, ki_non_int, ki_non_str, ki_non_bool, ki_non_list, ki_non_tuple, ki_non_dict, kis_nil, kis_t, kis_f, Z.argsOf, Z.argOf, Z.backTo, Z.outsOf, List.any_nil, List.any_cons, filterMap_some, k1_all markB, h1]
      · simp only [h1, Bool.false_and]
  · simp only [↓We_var, ↓We_int, ↓We_str, ↓We_bl, ↓We_non, ↓We_gl, ↓We_dspc, ↓We_fs, ↓We_tup, ↓We_lst, ↓We_op1, ↓We_op2, ↓We_sm1, ↓We_slc, ↓We_isi, ↓We_and, ↓We_or, ↓We_one, ↓We_not, ↓We_ife, ↓We_chn, ↓We_pop, ↓We_call, ↓We_callk, ↓We_comp, ↓Wr_var, ↓Wr_int, ↓Wr_str, ↓Wr_bl, ↓Wr_non, ↓Wr_gl, ↓Wr_dspc, ↓Wr_fs, ↓Wr_tup, ↓Wr_lst, ↓Wr_op1, ↓Wr_op2, ↓Wr_sm1, ↓Wr_slc, ↓Wr_isi, ↓Wr_and, ↓Wr_or, ↓Wr_not, ↓Wr_ife, ↓Wr_chn, ↓Wr_pop, ↓Wr_call, ↓Wr_callk, ↓Wr_comp, ↓Ws_set, ↓Ws_unp, ↓Ws_unps, ↓Ws_app, ↓Ws_seti, ↓Ws_setf, ↓Ws_expr, ↓Ws_ife, ↓Ws_for, ↓Ws_while, ↓Ws_ret, ↓Ws_retv, ↓Ws_retn, ↓Ws_brk, ↓Ws_cont, ↓Ws_pass, ↓Wss_cons, ↓Wss_nil, ↓Wes_nil, ↓Wes_cons, ↓Wo_none, ↓Wo_some, ↓Was_nil, ↓Was_ev, ↓Was_pk, ↓Wcall_def, catA_nil, catA_cons, ↓Wsrc_seq, ↓Wsrc_rng1, ↓Wsrc_rng2, ↓Wsrc_zip, ↓seq_nx, ↓seq_rt, ↓seq_bk, ↓seq_ct, ↓seq_ex, ↓W1_some, ↓WJ_some, ↓W1_none, ↓WJ_none, ↓Wf_fz, ↓Wf_lst, ↓Wf_dct, ↓Wf_obj, ↓Wb_bl, ↓Wi_int, ↓Wif_true, ↓Wif_false, ↓Wv_fz, ↓Wv_ow, ↓Wv_owd, ↓Wv_owo, ↓Wsem_ok, ↓setR_fz, ↓setR_fr, ↓Wrv_some, ↓Wpk_some, ↓Wunp_fz, ↓Wunps_lst, ↓WisL_lst, ↓Wapp_ow, ↓Wapp_io, ↓Wseti_ow, ↓Wseti_io, ↓Wretv_fz, ↓Wretv_ow, ↓Wpop_io, ↓Wpop_ow, ↓Wturn_none, ↓Wturn_some, ↓accO_some, ↓accO_none, ↓res_val, ↓res_pk, ↓slotD_0, ↓slotD_s, W1_some, WJ_some, W1_none, WJ_none, Wf_fz, Wf_lst, Wf_dct, Wf_obj, Wb_bl, Wi_int, Wif_true, Wif_false, Wv_fz, Wv_ow, Wv_owd, Wv_owo, Wsem_ok, setR_fz, setR_fr, Wrv_some, Wpk_some, Wunp_fz, Wunps_lst, WisL_lst, Wapp_ow, Wapp_io, Wseti_ow, Wseti_io, Wretv_fz, Wretv_ow, Wpop_io, Wpop_ow, accO_some, accO_none, Int.reduceLT, Int.reduceLE, Nat.reduceLT, Nat.reduceLeDiff, Int.reduceToNat, Int.reduceAdd, Int.reduceSub, Int.reduceMul, Int.reduceNeg, decide_true, decide_false, Bool.or_true, Bool.true_or, Bool.or_false, Bool.false_or, Bool.and_true, Bool.true_and, Bool.and_false, Bool.false_and, Bool.not_true, Bool.not_false, and_true, true_and, Option.map_some, Option.map_none, Option.bind_some, Option.bind_none, List.set_cons_zero, List.set_cons_succ, k1_len_str, k1_len_tup, k1_len_lst, k1_len_frl, k1_abs, k1_neg, k1_int, k1_intb, k1_tuple_lst, k1_tuple_tup, k1_list_lst, k1_list_tup, k1_rev, k1_isN, k1_notN, k2_add, k2_add_str, k2_add_lst, k2_sub, k1_isT, k1_notT, k2_mul, k2_muls, k2_fdiv, k2_mod, k2_pow6, k2_pow18, k2_pow12, k2_lt, k2_le, k2_gt, k2_ge, k2_eq, k2_ne, k2_in, k2_notin, k2_idx, idx_0, idx_1, idx_2, idx_3, idt_0, idt_1, idt_2, idt_3, k2_max, slc_str, slc_lst, slc_frl, seq_lst, seq_tup, seq_str, turnE_nx, turnE_ct, turnE_rt, turnE_bk, wipeD, backW, freeT_nil, freeT_cons, freeT1_none, freeT1_fz, freeT1_fzs, lockI, lockD_n, lockD_s, openD_n, openD_s, bindT_1, bindT_2, bindM, size_le, List.foldl_cons, List.foldl_nil, List.all_cons, List.all_nil, List.getElem?_cons_zero, List.getElem?_cons_succ, Option.join_some, Option.join_none, List.zip_cons_cons, List.zip_nil_left, List.length_cons, List.length_nil, List.length_append, Nat.reduceAdd, Nat.reduceEqDiff, Bool.false_eq_true, if_true, if_false, ↓reduceIte, ite_true, ite_false, ki_int_int, ki_int_str, ki_int_bool, ki_int_list, ki_int_tuple, ki_int_dict, ki_bl_int, ki_bl_str, ki_bl_bool, ki_bl_list, ki_bl_tuple, ki_bl_dict, ki_str_int, ki_str_str, ki_str_bool, ki_str_list, ki_str_tuple, ki_str_dict, ki_lst_int, ki_lst_str, ki_lst_bool, ki_lst_list, ki_lst_tuple, ki_lst_dict, ki_frl_int, ki_frl_str, ki_frl_bool, ki_frl_list, ki_frl_tuple, ki_frl_dict, ki_tup_int, ki_tup_str, ki_tup_bool, ki_tup_list, ki_tup_tuple, ki_tup_dict, ki_dct_int, ki_dct_str, ki_dct_bool, ki_dct_list, ki_dct_tuple, ki_dct_dict, ki_non_int, ki_non_str, ki_non_bool, ki_non_list, ki_non_tuple, ki_non_dict, kis_nil, kis_t, kis_f, Z.argsOf, Z.argOf, Z.backTo, Z.outsOf, List.any_nil, List.any_cons, Tis_name_1_0, nameB]
  · simp only [↓We_var, ↓We_int, ↓We_str, ↓We_bl, ↓We_non, ↓We_gl, ↓We_dspc, ↓We_fs, ↓We_tup, ↓We_lst, ↓We_op1, ↓We_op2, ↓We_sm1, ↓We_slc, ↓We_isi, ↓We_and, ↓We_or, ↓We_one, ↓We_not, ↓We_ife, ↓We_chn, ↓We_pop, ↓We_call, ↓We_callk, ↓We_comp, ↓Wr_var, ↓Wr_int, ↓Wr_str, ↓Wr_bl, ↓Wr_non, ↓Wr_gl, ↓Wr_dspc, ↓Wr_fs, ↓Wr_tup, ↓Wr_lst, ↓Wr_op1, ↓Wr_op2, ↓Wr_sm1, ↓Wr_slc, ↓Wr_isi, ↓Wr_and, ↓Wr_or, ↓Wr_not, ↓Wr_ife, ↓Wr_chn, ↓Wr_pop, ↓Wr_call, ↓Wr_callk, ↓Wr_comp, ↓Ws_set, ↓Ws_unp, ↓Ws_unps, ↓Ws_app, ↓Ws_seti, ↓Ws_setf, ↓Ws_expr, ↓Ws_ife, ↓Ws_for, ↓Ws_while, ↓Ws_ret, ↓Ws_retv, ↓Ws_retn, ↓Ws_brk, ↓Ws_cont, ↓Ws_pass, ↓Wss_cons, ↓Wss_nil, ↓Wes_nil, ↓Wes_cons, ↓Wo_none, ↓Wo_some, ↓Was_nil, ↓Was_ev, ↓Was_pk, ↓Wcall_def, catA_nil, catA_cons, ↓Wsrc_seq, ↓Wsrc_rng1, ↓Wsrc_rng2, ↓Wsrc_zip, ↓seq_nx, ↓seq_rt, ↓seq_bk, ↓seq_ct, ↓seq_ex, ↓W1_some, ↓WJ_some, ↓W1_none, ↓WJ_none, ↓Wf_fz, ↓Wf_lst, ↓Wf_dct, ↓Wf_obj, ↓Wb_bl, ↓Wi_int, ↓Wif_true, ↓Wif_false, ↓Wv_fz, ↓Wv_ow, ↓Wv_owd, ↓Wv_owo, ↓Wsem_ok, ↓setR_fz, ↓setR_fr, ↓Wrv_some, ↓Wpk_some, ↓Wunp_fz, ↓Wunps_lst, ↓WisL_lst, ↓Wapp_ow, ↓Wapp_io, ↓Wseti_ow, ↓Wseti_io, ↓Wretv_fz, ↓Wretv_ow, ↓Wpop_io, ↓Wpop_ow, ↓Wturn_none, ↓Wturn_some, ↓accO_some, ↓accO_none, ↓res_val, ↓res_pk, ↓slotD_0, ↓slotD_s, W1_some, WJ_some, W1_none, WJ_none, Wf_fz, Wf_lst, Wf_dct, Wf_obj, Wb_bl, Wi_int, Wif_true, Wif_false, Wv_fz, Wv_ow, Wv_owd, Wv_owo, Wsem_ok, setR_fz, setR_fr, Wrv_some, Wpk_some, Wunp_fz, Wunps_lst, WisL_lst, Wapp_ow, Wapp_io, Wseti_ow, Wseti_io, Wretv_fz, Wretv_ow, Wpop_io, Wpop_ow, accO_some, accO_none, Int.reduceLT, Int.reduceLE, Nat.reduceLT, Nat.reduceLeDiff, Int.reduceToNat, Int.reduceAdd, Int.reduceSub, Int.reduceMul, Int.reduceNeg, decide_true, decide_false, Bool.or_true, Bool.true_or, Bool.or_false, Bool.false_or, Bool.and_true, Bool.true_and, Bool.and_false, Bool.false_and, Bool.not_true, Bool.not_false, and_true, true_and, Option.map_some, Option.map_none, Option.bind_some, Option.bind_none, List.set_cons_zero, List.set_cons_succ, k1_len_str, k1_len_tup, k1_len_lst, k1_len_frl, k1_abs, k1_neg, k1_int, k1_intb, k1_tuple_lst, k1_tuple_tup, k1_list_lst, k1_list_tup, k1_rev, k1_isN, k1_notN, k2_add, k2_add_str, k2_add_lst, k2_sub, k1_isT, k1_notT, k2_mul, k2_muls, k2_fdiv, k2_mod, k2_pow6, k2_pow18, k2_pow12, k2_lt, k2_le, k2_gt, k2_ge, k2_eq, k2_ne, k2_in, k2_notin, k2_idx, idx_0, idx_1, idx_2, idx_3, idt_0, idt_1, idt_2, idt_3, k2_max, slc_str, slc_lst, slc_frl, seq_lst, seq_tup, seq_str, turnE_nx, turnE_ct, turnE_rt, turnE_bk, wipeD, backW, freeT_nil, freeT_cons, freeT1_none, freeT1_fz, freeT1_fzs, lockI, lockD_n, lockD_s, openD_n, openD_s, bindT_1, bindT_2, bindM, size_le, List.foldl_cons, List.foldl_nil, List.all_cons, List.all_nil, List.getElem?_cons_zero, List.getElem?_cons_succ, Option.join_some, Option.join_none, List.zip_cons_cons, List.zip_nil_left, List.length_cons, List.length_nil, List.length_append, Nat.reduceAdd, Nat.reduceEqDiff, Bool.false_eq_true, if_true, if_false, ↓reduceIte, ite_true, ite_false, ki_int_int, ki_int_str, ki_int_bool, ki_int_list, ki_int_tuple, ki_int_dict, ki_bl_int, ki_bl_str, ki_bl_bool, ki_bl_list, ki_bl_tuple, ki_bl_dict, ki_str_int, ki_str_str, ki_str_bool, ki_str_list, ki_str_tuple, ki_str_dict, ki_lst_int, ki_lst_str, ki_lst_bool, ki_lst_list, ki_lst_tuple, ki_lst_dict, ki_frl_int, ki_frl_str, ki_frl_bool, ki_frl_list, ki_frl_tuple, ki_frl_dict, ki_tup_int, ki_tup_str, ki_tup_bool, ki_tup_list, ki_tup_tuple, ki_tup_dict, ki_dct_int, ki_dct_str, ki_dct_bool, ki_dct_list, ki_dct_tuple, ki_dct_dict, ki_non_int, ki_non_str, ki_non_bool, ki_non_list, ki_non_tuple, ki_non_dict, kis_nil, kis_t, kis_f, Z.argsOf, Z.argOf, Z.backTo, Z.outsOf, List.any_nil, List.any_cons, Tis_name_1_0, nameB]
  · simp only [↓We_var, ↓We_int, ↓We_str, ↓We_bl, ↓We_non, ↓We_gl, ↓We_dspc, ↓We_fs, ↓We_tup, ↓We_lst, ↓We_op1, ↓We_op2, ↓We_sm1, ↓We_slc, ↓We_isi, ↓We_and, ↓We_or, ↓We_one, ↓We_not, ↓We_ife, ↓We_chn, ↓We_pop, ↓We_call, ↓We_callk, ↓We_comp, ↓Wr_var, ↓Wr_int, ↓Wr_str, ↓Wr_bl, ↓Wr_non, ↓Wr_gl, ↓Wr_dspc, ↓Wr_fs, ↓Wr_tup, ↓Wr_lst, ↓Wr_op1, ↓Wr_op2, ↓Wr_sm1, ↓Wr_slc, ↓Wr_isi, ↓Wr_and, ↓Wr_or, ↓Wr_not, ↓Wr_ife, ↓Wr_chn, ↓Wr_pop, ↓Wr_call, ↓Wr_callk, ↓Wr_comp, ↓Ws_set, ↓Ws_unp, ↓Ws_unps, ↓Ws_app, ↓Ws_seti, ↓Ws_setf, ↓Ws_expr, ↓Ws_ife, ↓Ws_for, ↓Ws_while, ↓Ws_ret, ↓Ws_retv, ↓Ws_retn, ↓Ws_brk, ↓Ws_cont, ↓Ws_pass, ↓Wss_cons, ↓Wss_nil, ↓Wes_nil, ↓Wes_cons, ↓Wo_none, ↓Wo_some, ↓Was_nil, ↓Was_ev, ↓Was_pk, ↓Wcall_def, catA_nil, catA_cons, ↓Wsrc_seq, ↓Wsrc_rng1, ↓Wsrc_rng2, ↓Wsrc_zip, ↓seq_nx, ↓seq_rt, ↓seq_bk, ↓seq_ct, ↓seq_ex, ↓W1_some, ↓WJ_some, ↓W1_none, ↓WJ_none, ↓Wf_fz, ↓Wf_lst, ↓Wf_dct, ↓Wf_obj, ↓Wb_bl, ↓Wi_int, ↓Wif_true, ↓Wif_false, ↓Wv_fz, ↓Wv_ow, ↓Wv_owd, ↓Wv_owo, ↓Wsem_ok, ↓setR_fz, ↓setR_fr, ↓Wrv_some, ↓Wpk_some, ↓Wunp_fz, ↓Wunps_lst, ↓WisL_lst, ↓Wapp_ow, ↓Wapp_io, ↓Wseti_ow, ↓Wseti_io, ↓Wretv_fz, ↓Wretv_ow, ↓Wpop_io, ↓Wpop_ow, ↓Wturn_none, ↓Wturn_some, ↓accO_some, ↓accO_none, ↓res_val, ↓res_pk, ↓slotD_0, ↓slotD_s, W1_some, WJ_some, W1_none, WJ_none, Wf_fz, Wf_lst, Wf_dct, Wf_obj, Wb_bl, Wi_int, Wif_true, Wif_false, Wv_fz, Wv_ow, Wv_owd, Wv_owo, Wsem_ok, setR_fz, setR_fr, Wrv_some, Wpk_some, Wunp_fz, Wunps_lst, WisL_lst, Wapp_ow, Wapp_io, Wseti_ow, Wseti_io, Wretv_fz, Wretv_ow, Wpop_io, Wpop_ow, accO_some, accO_none, Int.reduceLT, Int.reduceLE, Nat.reduceLT, Nat.reduceLeDiff, Int.reduceToNat, Int.reduceAdd, Int.reduceSub, Int.reduceMul, Int.reduceNeg, decide_true, decide_false, Bool.or_true, Bool.true_or, Bool.or_false, Bool.false_or, Bool.and_true, Bool.true_and, Bool.and_false, Bool.false_and, Bool.not_true, Bool.not_false, and_true, true_and, Option.map_some, Option.map_none, Option.bind_some, Option.bind_none, List.set_cons_zero, List.set_cons_succ, k1_len_str, k1_len_tup, k1_len_lst, k1_len_frl, k1_abs, k1_neg, k1_int, k1_intb, k1_tuple_lst, k1_tuple_tup, k1_list_lst, k1_list_tup, k1_rev, k1_isN, k1_notN, k2_add, k2_add_str, k2_add_lst, k2_sub, k1_isT, k1_notT, k2_mul, k2_muls, k2_fdiv, k2_mod, k2_pow6, k2_pow18, k2_pow12, k2_lt, k2_le, k2_gt, k2_ge, k2_eq, k2_ne, k2_in, k2_notin, k2_idx, idx_0, idx_1, idx_2, idx_3, idt_0, idt_1, idt_2, idt_3, k2_max, slc_str, slc_lst, slc_frl, seq_lst, seq_tup, seq_str, turnE_nx, turnE_ct, turnE_rt, turnE_bk, wipeD, backW, freeT_nil, freeT_cons, freeT1_none, freeT1_fz, freeT1_fzs, lockI, lockD_n, lockD_s, openD_n, openD_s, bindT_1, bindT_2, bindM, size_le, List.foldl_cons, List.foldl_nil, List.all_cons, List.all_nil, List.getElem?_cons_zero, List.getElem?_cons_succ, Option.join_some, Option.join_none, List.zip_cons_cons, List.zip_nil_left, List.length_cons, List.length_nil, List.length_append, Nat.reduceAdd, Nat.reduceEqDiff, Bool.false_eq_true, if_true, if_false, ↓reduceIte, ite_true, ite_false, ki_int_int, ki_int_str, ki_int_bool, ki_int_list, ki_int_tuple, ki_int_dict, ki_bl_int, ki_bl_str, ki_bl_bool, ki_bl_list, ki_bl_tuple, ki_bl_dict, ki_str_int, ki_str_str, ki_str_bool, ki_str_list, ki_str_tuple, ki_str_dict, ki_lst_int, ki_lst_str, ki_lst_bool, ki_lst_list, ki_lst_tuple, ki_lst_dict, ki_frl_int, ki_frl_str, ki_frl_bool, ki_frl_list, ki_frl_tuple, ki_frl_dict, ki_tup_int, ki_tup_str, ki_tup_bool, ki_tup_list, ki_tup_tuple, ki_tup_dict, ki_dct_int, ki_dct_str, ki_dct_bool, ki_dct_list, ki_dct_tuple, ki_dct_dict, ki_non_int, ki_non_str, ki_non_bool, ki_non_list, ki_non_tuple, ki_non_dict, kis_nil, kis_t, kis_f, Z.argsOf, Z.argOf, Z.backTo, Z.outsOf, List.any_nil, List.any_cons, Tis_name_1_0, nameB]
  · simp only [↓We_var, ↓We_int, ↓We_str, ↓We_bl, ↓We_non, ↓We_gl, ↓We_dspc, ↓We_fs, ↓We_tup, ↓We_lst, ↓We_op1, ↓We_op2, ↓We_sm1, ↓We_slc, ↓We_isi, ↓We_and, ↓We_or, ↓We_one, ↓We_not, ↓We_ife, ↓We_chn, ↓We_pop, ↓We_call, ↓We_callk, ↓We_comp, ↓Wr_var, ↓Wr_int, ↓Wr_str, ↓Wr_bl, ↓Wr_non, ↓Wr_gl, ↓Wr_dspc, ↓Wr_fs, ↓Wr_tup, ↓Wr_lst, ↓Wr_op1, ↓Wr_op2, ↓Wr_sm1, ↓Wr_slc, ↓Wr_isi, ↓Wr_and, ↓Wr_or, ↓Wr_not, ↓Wr_ife, ↓Wr_chn, ↓Wr_pop, ↓Wr_call, ↓Wr_callk, ↓Wr_comp, ↓Ws_set, ↓Ws_unp, ↓Ws_unps, ↓Ws_app, ↓Ws_seti, ↓Ws_setf, ↓Ws_expr, ↓Ws_ife, ↓Ws_for, ↓Ws_while, ↓Ws_ret, ↓Ws_retv, ↓Ws_retn, ↓Ws_brk, ↓Ws_cont, ↓Ws_pass, ↓Wss_cons, ↓Wss_nil, ↓Wes_nil, ↓Wes_cons, ↓Wo_none, ↓Wo_some, ↓Was_nil, ↓Was_ev, ↓Was_pk, ↓Wcall_def, catA_nil, catA_cons, ↓Wsrc_seq, ↓Wsrc_rng1, ↓Wsrc_rng2, ↓Wsrc_zip, ↓seq_nx, ↓seq_rt, ↓seq_bk, ↓seq_ct, ↓seq_ex, ↓W1_some, ↓WJ_some, ↓W1_none, ↓WJ_none, ↓Wf_fz, ↓Wf_lst, ↓Wf_dct, ↓Wf_obj, ↓Wb_bl, ↓Wi_int, ↓Wif_true, ↓Wif_false, ↓Wv_fz, ↓Wv_ow, ↓Wv_owd, ↓Wv_owo, ↓Wsem_ok, ↓setR_fz, ↓setR_fr, ↓Wrv_some, ↓Wpk_some, ↓Wunp_fz, ↓Wunps_lst, ↓WisL_lst, ↓Wapp_ow, ↓Wapp_io, ↓Wseti_ow, ↓Wseti_io, ↓Wretv_fz, ↓Wretv_ow, ↓Wpop_io, ↓Wpop_ow, ↓Wturn_none, ↓Wturn_some, ↓accO_some, ↓accO_none, ↓res_val, ↓res_pk, ↓slotD_0, ↓slotD_s, W1_some, WJ_some, W1_none, WJ_none, Wf_fz, Wf_lst, Wf_dct, Wf_obj, Wb_bl, Wi_int, Wif_true, Wif_false, Wv_fz, Wv_ow, Wv_owd, Wv_owo, Wsem_ok, setR_fz, setR_fr, Wrv_some, Wpk_some, Wunp_fz, Wunps_lst, WisL_lst, Wapp_ow, Wapp_io, Wseti_ow, Wseti_io, Wretv_fz, Wretv_ow, Wpop_io, Wpop_ow, accO_some, accO_none, Int.reduceLT, Int.reduceLE, Nat.reduceLT, Nat.reduceLeDiff, Int.reduceToNat, Int.reduceAdd, Int.reduceSub, Int.reduceMul, Int.reduceNeg, decide_true, decide_false, Bool.or_true, Bool.true_or, Bool.or_false, Bool.false_or, Bool.and_true, Bool.true_and, Bool.and_false, Bool.false_and, Bool.not_true, Bool.not_false, and_true, true_and, Option.map_some, Option.map_none, Option.bind_some, Option.bind_none, List.set_cons_zero, List.set_cons_succ, k1_len_str, k1_len_tup, k1_len_lst, k1_len_frl, k1_abs, k1_neg, k1_int, k1_intb, k1_tuple_lst, k1_tuple_tup, k1_list_lst, k1_list_tup, k1_rev, k1_isN, k1_notN, k2_add, k2_add_str, k2_add_lst, k2_sub, k1_isT, k1_notT, k2_mul, k2_muls, k2_fdiv, k2_mod, k2_pow6, k2_pow18, k2_pow12, k2_lt, k2_le, k2_gt, k2_ge, k2_eq, k2_ne, k2_in, k2_notin, k2_idx, idx_0, idx_1, idx_2, idx_3, idt_0, idt_1, idt_2, idt_3, k2_max, slc_str, slc_lst, slc_frl, seq_lst, seq_tup, seq_str, turnE_nx, turnE_ct, turnE_rt, turnE_bk, wipeD, backW, freeT_nil, freeT_cons, freeT1_none, freeT1_fz, freeT1_fzs, lockI, lockD_n, lockD_s, openD_n, openD_s, bindT_1, bindT_2, bindM, size_le, List.foldl_cons, List.foldl_nil, List.all_cons, List.all_nil, List.getElem?_cons_zero, List.getElem?_cons_succ, Option.join_some, Option.join_none, List.zip_cons_cons, List.zip_nil_left, List.length_cons, List.length_nil, List.length_append, Nat.reduceAdd, Nat.reduceEqDiff, Bool.false_eq_true, if_true, if_false, ↓reduceIte, ite_true, ite_false, ki_int_int, ki_int_str, ki_int_bool, ki_int_list, ki_int_tuple, ki_int_dict, ki_bl_int, ki_bl_str, ki_bl_bool, ki_bl_list, ki_bl_tuple, ki_bl_dict, ki_str_int, ki_str_str, ki_str_bool, ki_str_list, ki_str_tuple, ki_str_dict, ki_lst_int, ki_lst_str, ki_lst_bool, ki_lst_list, ki_lst_tuple, ki_lst_dict, ki_frl_int, ki_frl_str, ki_frl_bool, ki_frl_list, ki_frl_tuple, ki_frl_dict, ki_tup_int, ki_tup_str, ki_tup_bool, ki_tup_list, ki_tup_tuple, ki_tup_dict, ki_dct_int, ki_dct_str, ki_dct_bool, ki_dct_list, ki_dct_tuple, ki_dct_dict, ki_non_int, ki_non_str, ki_non_bool, ki_non_list, ki_non_tuple, ki_non_dict, kis_nil, kis_t, kis_f, Z.argsOf, Z.argOf, Z.backTo, Z.outsOf, List.any_nil, List.any_cons, Tis_name_1_0, nameB]
end Z

set_option Elab.async false
set_option linter.all false
set_option maxHeartbeats 1000000
set_option maxRecDepth 100000
/-! PMark: marked, asked, stepped: the new names. -/
namespace Z
open PySem
/-- a number written -/
abbrev decL (n : Nat) : List Nat := TL.numL n
theorem cps_num (n : Nat) : cpsD (toString (n : Int)) = decL n := TL.tl_num n
theorem log2_small {n : Nat} (h : n < 1000000000) : n.log2 < 1920 := by
  by_cases h0 : n = 0
  · subst h0; decide
  · exact Nat.lt_of_lt_of_le (Nat.log2_lt h0 |>.mpr (Nat.lt_of_lt_of_le h (by decide : 1000000000 ≤ 2 ^ 30))) (by decide)
theorem k1_str_num {n : Nat} (h : n < 1000000000) : k1 .str (.int n) = some (.fz (.str (decL n))) := by
  simp only [k1, Int.natAbs_natCast, log2_small h, if_true, cps_num]
theorem k1_fmt_num {n : Nat} (h : n < 1000000000) : k1 .fmt (.int n) = some (.fz (.str (decL n))) := by
  simp only [k1, Int.natAbs_natCast, log2_small h, if_true, cps_num]
theorem k1_fmt_str {s : List Nat} (h : s.length ≤ sizeL) : k1 .fmt (.str s) = some (.fz (.str s)) := by simp only [k1, h, if_true]
theorem decL_dig (n : Nat) : ∀ c ∈ decL n, c ∈ DIG := fun c hc => by
  have h := TL.numL_digits n c hc
  have : c = 48 ∨ c = 49 ∨ c = 50 ∨ c = 51 ∨ c = 52 ∨ c = 53 ∨ c = 54 ∨ c = 55 ∨ c = 56 ∨ c = 57 := by omega
  simp only [DIG, List.mem_cons, List.not_mem_nil, or_false]
  exact this
theorem decL_free {n s : Nat} (h : s < 48 ∨ 57 < s) : s ∉ decL n := TL.numL_free h
theorem decL_inj {m n : Nat} (h : decL m = decL n) : m = n := TL.numL_inj h
theorem decL_head : ∀ n : Nat, decL n = [48] ∨ (decL n)[0]? ≠ some 48 := by
  intro n
  induction n using Nat.strongRecOn with
  | ind n ih =>
    by_cases h : n < 10
    · show TL.numL n = _ ∨ (TL.numL n)[0]? ≠ _
      rw [TL.numL_lt h]
      by_cases h0 : n = 0
      · left; rw [h0]
      · right; simp; omega
    · show TL.numL n = _ ∨ (TL.numL n)[0]? ≠ _
      rw [TL.numL_step (by omega)]
      right
      have hne : TL.numL (n / 10) ≠ [] := TL.numL_ne _
      rcases ih (n / 10) (by omega) with h1 | h1
      · have h1 : TL.numL (n / 10) = [48] := h1
        have : n / 10 = 0 := TL.numL_inj (m := n / 10) (n := 0) (by rw [h1]; rfl)
        omega
      · have h1 : (TL.numL (n / 10))[0]? ≠ some 48 := h1
        cases e : TL.numL (n / 10) with
        | nil => exact absurd e hne
        | cons c s => rw [e] at h1; simpa using h1
theorem numB_dec {n : Nat} {m : Nat} (hm : 0 < m) (h : n < 10 ^ m) : numB (decL n) m = true := by
  have h1 : (decL n).length ≤ m := TL.numL_len hm h
  have h2 : 1 ≤ (decL n).length := by
    have := TL.numL_ne n
    exact List.length_pos_iff.mpr this
  unfold numB
  have h3 : onlyB (decL n) DIG = true := List.all_eq_true.mpr fun c hc => decide_eq_true (decL_dig n c hc)
  rw [decide_eq_true h2, decide_eq_true h1, h3]
  rcases decL_head n with h4 | h4
  · rw [decide_eq_true h4]; rfl
  · rw [decide_eq_true h4]; simp
theorem rep64 {h : Nat} : (List.replicate h [64]).flatten = List.replicate h 64 := by
  induction h with
  | zero => rfl
  | succ h ih => rw [List.replicate_succ, List.flatten_cons, ih]; rfl
/-- a new name: the relation, the signs, the mode, what stands behind -/
def nw (n m : List Nat) (h : Nat) (s : List Nat) : List Nat := n ++ List.replicate h 64 ++ m ++ s
theorem sz {n : Nat} (h : n ≤ 1000) : n ≤ sizeL := Nat.le_trans h (by decide)
theorem marked_run {n m : List Nat} {h : Nat} (hn : n.length ≤ 200) (hm : m.length ≤ 200) (hh : h ≤ 200) : runF 3 3 Bmarked [(.fz, .str n), (.fz, .str m), (.fz, .int h)] = .ok (.fz (.str (nw n m h []))) [.str n, .str m, .int h] := by
  refine runF_eq (np := 3) rfl ?_
  simp only [List.map_cons, List.map_nil, List.replicate, Nat.reduceSub, List.replicate_zero, List.cons_append, List.nil_append, Bmarked, Tmarked_0_0]
  have h1 : (0 : Int) ≤ (h : Int) := by omega
  have h2 : (h : Int) ≤ 1000 := by omega
  have z1 : n.length + (List.replicate h 64).length ≤ sizeL := sz (by simp; omega)
  have z2 : (n ++ List.replicate h 64).length + m.length ≤ sizeL := sz (by simp; omega)
  have e := k2_muls (s := [64]) h1 h2 (by simp)
  rw [Int.toNat_natCast, rep64] at e
  simp only [↓We_var, ↓We_int, ↓We_str, ↓We_bl, ↓We_non, ↓We_gl, ↓We_dspc, ↓We_fs, ↓We_tup, ↓We_lst, ↓We_op1, ↓We_op2, ↓We_sm1, ↓We_slc, ↓We_isi, ↓We_and, ↓We_or, ↓We_one, ↓We_not, ↓We_ife, ↓We_chn, ↓We_pop, ↓We_call, ↓We_callk, ↓We_comp, ↓Wr_var, ↓Wr_int, ↓Wr_str, ↓Wr_bl, ↓Wr_non, ↓Wr_gl, ↓Wr_dspc, ↓Wr_fs, ↓Wr_tup, ↓Wr_lst, ↓Wr_op1, ↓Wr_op2, ↓Wr_sm1, ↓Wr_slc, ↓Wr_isi, ↓Wr_and, ↓Wr_or, ↓Wr_not, ↓Wr_ife, ↓Wr_chn, ↓Wr_pop, ↓Wr_call, ↓Wr_callk, ↓Wr_comp, ↓Ws_set, ↓Ws_unp, ↓Ws_unps, ↓Ws_app, ↓Ws_seti, ↓Ws_setf, ↓Ws_expr, ↓Ws_ife, ↓Ws_for, ↓Ws_while, ↓Ws_ret, ↓Ws_retv, ↓Ws_retn, ↓Ws_brk, ↓Ws_cont, ↓Ws_pass, ↓Wss_cons, ↓Wss_nil, ↓Wes_nil, ↓Wes_cons, ↓Wo_none, ↓Wo_some, ↓Was_nil, ↓Was_ev, ↓Was_pk, ↓Wcall_def, catA_nil, catA_cons, ↓Wsrc_seq, ↓Wsrc_rng1, ↓Wsrc_rng2, ↓Wsrc_zip, ↓seq_nx, ↓seq_rt, ↓seq_bk, ↓seq_ct, ↓seq_ex, ↓W1_some, ↓WJ_some, ↓W1_none, ↓WJ_none, ↓Wf_fz, ↓Wf_lst, ↓Wf_dct, ↓Wf_obj, ↓Wb_bl, ↓Wi_int, ↓Wif_true, ↓Wif_false, ↓Wv_fz, ↓Wv_ow, ↓Wv_owd, ↓Wv_owo, ↓Wsem_ok, ↓setR_fz, ↓setR_fr, ↓Wrv_some, ↓Wpk_some, ↓Wunp_fz, ↓Wunps_lst, ↓WisL_lst, ↓Wapp_ow, ↓Wapp_io, ↓Wseti_ow, ↓Wseti_io, ↓Wretv_fz, ↓Wretv_ow, ↓Wpop_io, ↓Wpop_ow, ↓Wturn_none, ↓Wturn_some, ↓accO_some, ↓accO_none, ↓res_val, ↓res_pk, ↓slotD_0, ↓slotD_s, W1_some, WJ_some, W1_none, WJ_none, Wf_fz, Wf_lst, Wf_dct, Wf_obj, Wb_bl, Wi_int, Wif_true, Wif_false, Wv_fz, Wv_ow, Wv_owd, Wv_owo, Wsem_ok, setR_fz, setR_fr, Wrv_some, Wpk_some, Wunp_fz, Wunps_lst, WisL_lst, Wapp_ow, Wapp_io, Wseti_ow, Wseti_io, Wretv_fz, Wretv_ow, Wpop_io, Wpop_ow, accO_some, accO_none, Int.reduceLT, Int.reduceLE, Nat.reduceLT, Nat.reduceLeDiff, Int.reduceToNat, Int.reduceAdd, Int.reduceSub, Int.reduceMul, Int.reduceNeg, decide_true, decide_false, Bool.or_true, Bool.true_or, Bool.or_false, Bool.false_or, Bool.and_true, Bool.true_and, Bool.and_false, Bool.false_and, Bool.not_true, Bool.not_false, and_true, true_and, Option.map_some, Option.map_none, Option.bind_some, Option.bind_none, List.set_cons_zero, List.set_cons_succ, k1_len_str, k1_len_tup, k1_len_lst, k1_len_frl, k1_abs, k1_neg, k1_int, k1_intb, k1_tuple_lst, k1_tuple_tup, k1_list_lst, k1_list_tup, k1_rev, k1_isN, k1_notN, k2_add, k2_add_str, k2_add_lst, k2_sub, k1_isT, k1_notT, k2_mul, k2_muls, k2_fdiv, k2_mod, k2_pow6, k2_pow18, k2_pow12, k2_lt, k2_le, k2_gt, k2_ge, k2_eq, k2_ne, k2_in, k2_notin, k2_idx, idx_0, idx_1, idx_2, idx_3, idt_0, idt_1, idt_2, idt_3, k2_max, slc_str, slc_lst, slc_frl, seq_lst, seq_tup, seq_str, turnE_nx, turnE_ct, turnE_rt, turnE_bk, wipeD, backW, freeT_nil, freeT_cons, freeT1_none, freeT1_fz, freeT1_fzs, lockI, lockD_n, lockD_s, openD_n, openD_s, bindT_1, bindT_2, bindM, size_le, List.foldl_cons, List.foldl_nil, List.all_cons, List.all_nil, List.getElem?_cons_zero, List.getElem?_cons_succ, Option.join_some, Option.join_none, List.zip_cons_cons, List.zip_nil_left, List.length_cons, List.length_nil, List.length_append, Nat.reduceAdd, Nat.reduceEqDiff, Bool.false_eq_true, if_true, if_false, ↓reduceIte, ite_true, ite_false, ki_int_int, ki_int_str, ki_int_bool, ki_int_list, ki_int_tuple, ki_int_dict, ki_bl_int, ki_bl_str, ki_bl_bool, ki_bl_list, ki_bl_tuple, ki_bl_dict, ki_str_int, ki_str_str, ki_str_bool, ki_str_list, ki_str_tuple, ki_str_dict, ki_lst_int, ki_lst_str, ki_lst_bool, ki_lst_list, ki_lst_tuple, ki_lst_dict, ki_frl_int, ki_frl_str, ki_frl_bool, ki_frl_list, ki_frl_tuple, ki_frl_dict, ki_tup_int, ki_tup_str, ki_tup_bool, ki_tup_list, ki_tup_tuple, ki_tup_dict, ki_dct_int, ki_dct_str, ki_dct_bool, ki_dct_list, ki_dct_tuple, ki_dct_dict, ki_non_int, ki_non_str, ki_non_bool, ki_non_list, ki_non_tuple, ki_non_dict, kis_nil, kis_t, kis_f, Z.argsOf, Z.argOf, Z.backTo, Z.outsOf, List.any_nil, List.any_cons, e, k2_add_str z1, k2_add_str z2]
  simp [nw]
theorem marked_k {n m : List Nat} {h : Nat} (hn : n.length ≤ 200) (hm : m.length ≤ 200) (hh : h ≤ 200) : Fmarked_k_level.sem [(.fz, .str n), (.fz, .str m), (.fz, .int h)] = .ok (.fz (.str (nw n m h []))) [.str n, .str m, .int h] := marked_run hn hm hh
theorem dfl_ok {sem : List (Md × D) → OutF} {ds : List D} {xs : List (Md × D)} {r : R} {outs1 outs2 : List D} (h : sem (xs ++ ds.map fun d => (.fz, d)) = .ok r (outs1 ++ outs2)) (h1 : outs1.length = xs.length) (h2 : outs2.length = ds.length) : dfl sem ds xs = .ok r outs1 := by
  unfold dfl
  rw [h]
  dsimp only
  rw [if_pos (by rw [List.length_append, h1, h2]), ← h1, List.take_left]
theorem marked_d {n m : List Nat} (hn : n.length ≤ 200) (hm : m.length ≤ 200) : Fmarked_d1.sem [(.fz, .str n), (.fz, .str m)] = .ok (.fz (.str (nw n m 1 []))) [.str n, .str m] := by
  rw [Fmarked_d1_sem]
  exact dfl_ok (outs1 := [.str n, .str m]) (outs2 := [.int 1]) (marked_run (h := 1) hn hm (by decide)) rfl rfl
theorem asked_run {n m : List Nat} {h : Nat} (hn : n.length ≤ 200) (hm : m.length ≤ 200) (hh : h ≤ 200) : runF 3 3 Basked [(.fz, .str n), (.fz, .str m), (.fz, .int h)] = .ok (.fz (.str (nw n m h [63]))) [.str n, .str m, .int h] := by
  refine runF_eq (np := 3) rfl ?_
  simp only [List.map_cons, List.map_nil, List.replicate, Nat.reduceSub, List.replicate_zero, List.cons_append, List.nil_append, Basked, Tasked_0_0]
  have z1 : (nw n m h []).length ≤ sizeL := sz (by simp [nw]; omega)
  simp only [↓We_var, ↓We_int, ↓We_str, ↓We_bl, ↓We_non, ↓We_gl, ↓We_dspc, ↓We_fs, ↓We_tup, ↓We_lst, ↓We_op1, ↓We_op2, ↓We_sm1, ↓We_slc, ↓We_isi, ↓We_and, ↓We_or, ↓We_one, ↓We_not, ↓We_ife, ↓We_chn, ↓We_pop, ↓We_call, ↓We_callk, ↓We_comp, ↓Wr_var, ↓Wr_int, ↓Wr_str, ↓Wr_bl, ↓Wr_non, ↓Wr_gl, ↓Wr_dspc, ↓Wr_fs, ↓Wr_tup, ↓Wr_lst, ↓Wr_op1, ↓Wr_op2, ↓Wr_sm1, ↓Wr_slc, ↓Wr_isi, ↓Wr_and, ↓Wr_or, ↓Wr_not, ↓Wr_ife, ↓Wr_chn, ↓Wr_pop, ↓Wr_call, ↓Wr_callk, ↓Wr_comp, ↓Ws_set, ↓Ws_unp, ↓Ws_unps, ↓Ws_app, ↓Ws_seti, ↓Ws_setf, ↓Ws_expr, ↓Ws_ife, ↓Ws_for, ↓Ws_while, ↓Ws_ret, ↓Ws_retv, ↓Ws_retn, ↓Ws_brk, ↓Ws_cont, ↓Ws_pass, ↓Wss_cons, ↓Wss_nil, ↓Wes_nil, ↓Wes_cons, ↓Wo_none, ↓Wo_some, ↓Was_nil, ↓Was_ev, ↓Was_pk, ↓Wcall_def, catA_nil, catA_cons, ↓Wsrc_seq, ↓Wsrc_rng1, ↓Wsrc_rng2, ↓Wsrc_zip, ↓seq_nx, ↓seq_rt, ↓seq_bk, ↓seq_ct, ↓seq_ex, ↓W1_some, ↓WJ_some, ↓W1_none, ↓WJ_none, ↓Wf_fz, ↓Wf_lst, ↓Wf_dct, ↓Wf_obj, ↓Wb_bl, ↓Wi_int, ↓Wif_true, ↓Wif_false, ↓Wv_fz, ↓Wv_ow, ↓Wv_owd, ↓Wv_owo, ↓Wsem_ok, ↓setR_fz, ↓setR_fr, ↓Wrv_some, ↓Wpk_some, ↓Wunp_fz, ↓Wunps_lst, ↓WisL_lst, ↓Wapp_ow, ↓Wapp_io, ↓Wseti_ow, ↓Wseti_io, ↓Wretv_fz, ↓Wretv_ow, ↓Wpop_io, ↓Wpop_ow, ↓Wturn_none, ↓Wturn_some, ↓accO_some, ↓accO_none, ↓res_val, ↓res_pk, ↓slotD_0, ↓slotD_s, W1_some, WJ_some, W1_none, WJ_none, Wf_fz, Wf_lst, Wf_dct, Wf_obj, Wb_bl, Wi_int, Wif_true, Wif_false, Wv_fz, Wv_ow, Wv_owd, Wv_owo, Wsem_ok, setR_fz, setR_fr, Wrv_some, Wpk_some, Wunp_fz, Wunps_lst, WisL_lst, Wapp_ow, Wapp_io, Wseti_ow, Wseti_io, Wretv_fz, Wretv_ow, Wpop_io, Wpop_ow, accO_some, accO_none, Int.reduceLT, Int.reduceLE, Nat.reduceLT, Nat.reduceLeDiff, Int.reduceToNat, Int.reduceAdd, Int.reduceSub, Int.reduceMul, Int.reduceNeg, decide_true, decide_false, Bool.or_true, Bool.true_or, Bool.or_false, Bool.false_or, Bool.and_true, Bool.true_and, Bool.and_false, Bool.false_and, Bool.not_true, Bool.not_false, and_true, true_and, Option.map_some, Option.map_none, Option.bind_some, Option.bind_none, List.set_cons_zero, List.set_cons_succ, k1_len_str, k1_len_tup, k1_len_lst, k1_len_frl, k1_abs, k1_neg, k1_int, k1_intb, k1_tuple_lst, k1_tuple_tup, k1_list_lst, k1_list_tup, k1_rev, k1_isN, k1_notN, k2_add, k2_add_str, k2_add_lst, k2_sub, k1_isT, k1_notT, k2_mul, k2_muls, k2_fdiv, k2_mod, k2_pow6, k2_pow18, k2_pow12, k2_lt, k2_le, k2_gt, k2_ge, k2_eq, k2_ne, k2_in, k2_notin, k2_idx, idx_0, idx_1, idx_2, idx_3, idt_0, idt_1, idt_2, idt_3, k2_max, slc_str, slc_lst, slc_frl, seq_lst, seq_tup, seq_str, turnE_nx, turnE_ct, turnE_rt, turnE_bk, wipeD, backW, freeT_nil, freeT_cons, freeT1_none, freeT1_fz, freeT1_fzs, lockI, lockD_n, lockD_s, openD_n, openD_s, bindT_1, bindT_2, bindM, size_le, List.foldl_cons, List.foldl_nil, List.all_cons, List.all_nil, List.getElem?_cons_zero, List.getElem?_cons_succ, Option.join_some, Option.join_none, List.zip_cons_cons, List.zip_nil_left, List.length_cons, List.length_nil, List.length_append, Nat.reduceAdd, Nat.reduceEqDiff, Bool.false_eq_true, if_true, if_false, ↓reduceIte, ite_true, ite_false, ki_int_int, ki_int_str, ki_int_bool, ki_int_list, ki_int_tuple, ki_int_dict, ki_bl_int, ki_bl_str, ki_bl_bool, ki_bl_list, ki_bl_tuple, ki_bl_dict, ki_str_int, ki_str_str, ki_str_bool, ki_str_list, ki_str_tuple, ki_str_dict, ki_lst_int, ki_lst_str, ki_lst_bool, ki_lst_list, ki_lst_tuple, ki_lst_dict, ki_frl_int, ki_frl_str, ki_frl_bool, ki_frl_list, ki_frl_tuple, ki_frl_dict, ki_tup_int, ki_tup_str, ki_tup_bool, ki_tup_list, ki_tup_tuple, ki_tup_dict, ki_dct_int, ki_dct_str, ki_dct_bool, ki_dct_list, ki_dct_tuple, ki_dct_dict, ki_non_int, ki_non_str, ki_non_bool, ki_non_list, ki_non_tuple, ki_non_dict, kis_nil, kis_t, kis_f, Z.argsOf, Z.argOf, Z.backTo, Z.outsOf, List.any_nil, List.any_cons, marked_k hn hm hh, k1_fmt_str z1, strsD, List.flatten_cons, List.flatten_nil]
  refine ⟨sz (by simp [nw]; omega), ?_⟩
  simp [nw]
theorem asked_k {n m : List Nat} {h : Nat} (hn : n.length ≤ 200) (hm : m.length ≤ 200) (hh : h ≤ 200) : Fasked_k_level.sem [(.fz, .str n), (.fz, .str m), (.fz, .int h)] = .ok (.fz (.str (nw n m h [63]))) [.str n, .str m, .int h] := asked_run hn hm hh
theorem asked_d {n m : List Nat} (hn : n.length ≤ 200) (hm : m.length ≤ 200) : Fasked_d1.sem [(.fz, .str n), (.fz, .str m)] = .ok (.fz (.str (nw n m 1 [63]))) [.str n, .str m] := by
  rw [Fasked_d1_sem]
  exact dfl_ok (outs1 := [.str n, .str m]) (outs2 := [.int 1]) (asked_run (h := 1) hn hm (by decide)) rfl rfl
def tailL (a b : Nat) : List Nat := 47 :: decL a ++ 47 :: decL b
theorem decL_len {n : Nat} (h : n < 1000000000) : (decL n).length ≤ 9 := TL.numL_len (by decide) (Nat.lt_of_lt_of_le h (by decide))
theorem stepped_run {n m : List Nat} {a b h : Nat} (hn : n.length ≤ 200) (hm : m.length ≤ 200) (ha : a < 1000000000) (hb : b < 1000000000) (hh : h ≤ 200) : runF 5 5 Bstepped [(.fz, .str n), (.fz, .str m), (.fz, .int a), (.fz, .int b), (.fz, .int h)] = .ok (.fz (.str (nw n m h (tailL a b)))) [.str n, .str m, .int a, .int b, .int h] := by
  refine runF_eq (np := 5) rfl ?_
  simp only [List.map_cons, List.map_nil, List.replicate, Nat.reduceSub, List.replicate_zero, List.cons_append, List.nil_append, Bstepped, Tstepped_0_0]
  have z1 : (nw n m h []).length ≤ sizeL := sz (by simp [nw]; omega)
  have la := decL_len ha
  have lb := decL_len hb
  simp only [↓We_var, ↓We_int, ↓We_str, ↓We_bl, ↓We_non, ↓We_gl, ↓We_dspc, ↓We_fs, ↓We_tup, ↓We_lst, ↓We_op1, ↓We_op2, ↓We_sm1, ↓We_slc, ↓We_isi, ↓We_and, ↓We_or, ↓We_one, ↓We_not, ↓We_ife, ↓We_chn, ↓We_pop, ↓We_call, ↓We_callk, ↓We_comp, ↓Wr_var, ↓Wr_int, ↓Wr_str, ↓Wr_bl, ↓Wr_non, ↓Wr_gl, ↓Wr_dspc, ↓Wr_fs, ↓Wr_tup, ↓Wr_lst, ↓Wr_op1, ↓Wr_op2, ↓Wr_sm1, ↓Wr_slc, ↓Wr_isi, ↓Wr_and, ↓Wr_or, ↓Wr_not, ↓Wr_ife, ↓Wr_chn, ↓Wr_pop, ↓Wr_call, ↓Wr_callk, ↓Wr_comp, ↓Ws_set, ↓Ws_unp, ↓Ws_unps, ↓Ws_app, ↓Ws_seti, ↓Ws_setf, ↓Ws_expr, ↓Ws_ife, ↓Ws_for, ↓Ws_while, ↓Ws_ret, ↓Ws_retv, ↓Ws_retn, ↓Ws_brk, ↓Ws_cont, ↓Ws_pass, ↓Wss_cons, ↓Wss_nil, ↓Wes_nil, ↓Wes_cons, ↓Wo_none, ↓Wo_some, ↓Was_nil, ↓Was_ev, ↓Was_pk, ↓Wcall_def, catA_nil, catA_cons, ↓Wsrc_seq, ↓Wsrc_rng1, ↓Wsrc_rng2, ↓Wsrc_zip, ↓seq_nx, ↓seq_rt, ↓seq_bk, ↓seq_ct, ↓seq_ex, ↓W1_some, ↓WJ_some, ↓W1_none, ↓WJ_none, ↓Wf_fz, ↓Wf_lst, ↓Wf_dct, ↓Wf_obj, ↓Wb_bl, ↓Wi_int, ↓Wif_true, ↓Wif_false, ↓Wv_fz, ↓Wv_ow, ↓Wv_owd, ↓Wv_owo, ↓Wsem_ok, ↓setR_fz, ↓setR_fr, ↓Wrv_some, ↓Wpk_some, ↓Wunp_fz, ↓Wunps_lst, ↓WisL_lst, ↓Wapp_ow, ↓Wapp_io, ↓Wseti_ow, ↓Wseti_io, ↓Wretv_fz, ↓Wretv_ow, ↓Wpop_io, ↓Wpop_ow, ↓Wturn_none, ↓Wturn_some, ↓accO_some, ↓accO_none, ↓res_val, ↓res_pk, ↓slotD_0, ↓slotD_s, W1_some, WJ_some, W1_none, WJ_none, Wf_fz, Wf_lst, Wf_dct, Wf_obj, Wb_bl, Wi_int, Wif_true, Wif_false, Wv_fz, Wv_ow, Wv_owd, Wv_owo, Wsem_ok, setR_fz, setR_fr, Wrv_some, Wpk_some, Wunp_fz, Wunps_lst, WisL_lst, Wapp_ow, Wapp_io, Wseti_ow, Wseti_io, Wretv_fz, Wretv_ow, Wpop_io, Wpop_ow, accO_some, accO_none, Int.reduceLT, Int.reduceLE, Nat.reduceLT, Nat.reduceLeDiff, Int.reduceToNat, Int.reduceAdd, Int.reduceSub, Int.reduceMul, Int.reduceNeg, decide_true, decide_false, Bool.or_true, Bool.true_or, Bool.or_false, Bool.false_or, Bool.and_true, Bool.true_and, Bool.and_false, Bool.false_and, Bool.not_true, Bool.not_false, and_true, true_and, Option.map_some, Option.map_none, Option.bind_some, Option.bind_none, List.set_cons_zero, List.set_cons_succ, k1_len_str, k1_len_tup, k1_len_lst, k1_len_frl, k1_abs, k1_neg, k1_int, k1_intb, k1_tuple_lst, k1_tuple_tup, k1_list_lst, k1_list_tup, k1_rev, k1_isN, k1_notN, k2_add, k2_add_str, k2_add_lst, k2_sub, k1_isT, k1_notT, k2_mul, k2_muls, k2_fdiv, k2_mod, k2_pow6, k2_pow18, k2_pow12, k2_lt, k2_le, k2_gt, k2_ge, k2_eq, k2_ne, k2_in, k2_notin, k2_idx, idx_0, idx_1, idx_2, idx_3, idt_0, idt_1, idt_2, idt_3, k2_max, slc_str, slc_lst, slc_frl, seq_lst, seq_tup, seq_str, turnE_nx, turnE_ct, turnE_rt, turnE_bk, wipeD, backW, freeT_nil, freeT_cons, freeT1_none, freeT1_fz, freeT1_fzs, lockI, lockD_n, lockD_s, openD_n, openD_s, bindT_1, bindT_2, bindM, size_le, List.foldl_cons, List.foldl_nil, List.all_cons, List.all_nil, List.getElem?_cons_zero, List.getElem?_cons_succ, Option.join_some, Option.join_none, List.zip_cons_cons, List.zip_nil_left, List.length_cons, List.length_nil, List.length_append, Nat.reduceAdd, Nat.reduceEqDiff, Bool.false_eq_true, if_true, if_false, ↓reduceIte, ite_true, ite_false, ki_int_int, ki_int_str, ki_int_bool, ki_int_list, ki_int_tuple, ki_int_dict, ki_bl_int, ki_bl_str, ki_bl_bool, ki_bl_list, ki_bl_tuple, ki_bl_dict, ki_str_int, ki_str_str, ki_str_bool, ki_str_list, ki_str_tuple, ki_str_dict, ki_lst_int, ki_lst_str, ki_lst_bool, ki_lst_list, ki_lst_tuple, ki_lst_dict, ki_frl_int, ki_frl_str, ki_frl_bool, ki_frl_list, ki_frl_tuple, ki_frl_dict, ki_tup_int, ki_tup_str, ki_tup_bool, ki_tup_list, ki_tup_tuple, ki_tup_dict, ki_dct_int, ki_dct_str, ki_dct_bool, ki_dct_list, ki_dct_tuple, ki_dct_dict, ki_non_int, ki_non_str, ki_non_bool, ki_non_list, ki_non_tuple, ki_non_dict, kis_nil, kis_t, kis_f, Z.argsOf, Z.argOf, Z.backTo, Z.outsOf, List.any_nil, List.any_cons, marked_k hn hm hh, k1_fmt_str z1, k1_fmt_num ha, k1_fmt_num hb, strsD, List.flatten_cons, List.flatten_nil]
  refine ⟨sz (by simp [nw]; omega), ?_⟩
  simp [nw, tailL]
theorem stepped_k {n m : List Nat} {a b h : Nat} (hn : n.length ≤ 200) (hm : m.length ≤ 200) (ha : a < 1000000000) (hb : b < 1000000000) (hh : h ≤ 200) : Fstepped_k_level.sem [(.fz, .str n), (.fz, .str m), (.fz, .int a), (.fz, .int b), (.fz, .int h)] = .ok (.fz (.str (nw n m h (tailL a b)))) [.str n, .str m, .int a, .int b, .int h] := stepped_run hn hm ha hb hh
theorem stepped_d {n m : List Nat} {a b : Nat} (hn : n.length ≤ 200) (hm : m.length ≤ 200) (ha : a < 1000000000) (hb : b < 1000000000) : Fstepped_d1.sem [(.fz, .str n), (.fz, .str m), (.fz, .int a), (.fz, .int b)] = .ok (.fz (.str (nw n m 1 (tailL a b)))) [.str n, .str m, .int a, .int b] := by
  rw [Fstepped_d1_sem]
  exact dfl_ok (outs1 := [.str n, .str m, .int a, .int b]) (outs2 := [.int 1]) (stepped_run (h := 1) hn hm ha hb (by decide)) rfl rfl
/-! ### the names' plain law -/
theorem pre64 {c : Nat} {r : List Nat} : TL.pre [64] (c :: r) = decide (c = 64) := by
  by_cases h : c = 64
  · subst h; rfl
  · simp [TL.pre, h]
theorem spl_cat : ∀ (s acc t : List Nat), TL.spl [64] 0 acc (s ++ 64 :: t) = TL.spl [64] 0 acc s ++ TL.spl [64] 0 [] t
  | [], acc, t => by
    rw [TL.spl_nil, List.nil_append, TL.spl_hit (by rw [pre64]; rfl)]
    rfl
  | c :: s, acc, t => by
    by_cases h : c = 64
    · rw [List.cons_append, TL.spl_hit (by rw [pre64]; simp [h]), TL.spl_hit (by rw [pre64]; simp [h])]
      show acc :: TL.spl [64] 0 [] (s ++ 64 :: t) = acc :: TL.spl [64] 0 [] s ++ _
      rw [spl_cat s [] t]
      rfl
    · rw [List.cons_append, TL.spl_miss (by rw [pre64]; simp [h]), TL.spl_miss (by rw [pre64]; simp [h]), spl_cat s _ t]
theorem spl_one {s : List Nat} (h : 64 ∉ s) : TL.spl [64] 0 [] s = [s] := TL.spl_last1 h
theorem spl_reps {r : List Nat} (hr : 64 ∉ r) : ∀ k : Nat, TL.spl [64] 0 [] (List.replicate k 64 ++ r) = List.replicate k [] ++ [r]
  | 0 => by simp [spl_one hr]
  | k + 1 => by
    have := spl_cat [] [] (List.replicate k 64 ++ r)
    rw [TL.spl_nil, List.nil_append] at this
    rw [List.replicate_succ, List.cons_append, this, spl_reps hr k]
    rfl
/-- a name with one more mark behind h signs -/
theorem nameB_more {n r : List Nat} {k : Nat} (hn : nameB (.str n) = true) (hr : 64 ∉ r) (hm : markB r = true) : nameB (.str (n ++ List.replicate (k + 1) 64 ++ r)) = true := by
  have e : TL.spl [64] 0 [] (n ++ List.replicate (k + 1) 64 ++ r) = TL.spl [64] 0 [] n ++ (List.replicate k [] ++ [r]) := by
    rw [List.append_assoc, List.replicate_succ, List.cons_append, spl_cat, spl_reps hr]
  rw [nameB] at hn ⊢
  rw [e]
  cases q : TL.spl [64] 0 [] n with
  | nil => exact absurd q (spl_ne _ _ _ _)
  | cons w ms =>
    rw [q] at hn
    simp only [List.cons_append, Bool.and_eq_true, List.all_append, List.all_cons, List.all_nil, Bool.and_true] at hn ⊢
    refine ⟨hn.1, hn.2, ?_, hm⟩
    exact List.all_eq_true.mpr fun x hx => by rw [(List.mem_replicate.mp hx).2]; rfl
/-- a mode -/
def Bf (m : List Nat) : Prop := ∀ c ∈ m, c = 98 ∨ c = 102
theorem Bf.drop {m s : List Nat} (h : Bf m) (hs : ∀ c t, s = c :: t → c ≠ 98 ∧ c ≠ 102) : (m ++ s).dropWhile (fun c => decide (c ∈ [98, 102])) = s := by
  induction m with
  | nil =>
    cases s with
    | nil => rfl
    | cons c t =>
      have := hs c t rfl
      simp [List.dropWhile_cons, this]
  | cons c m ih =>
    have hc : c ∈ [98, 102] := by simpa using h c List.mem_cons_self
    rw [List.cons_append, List.dropWhile_cons, if_pos (by simpa using hc)]
    exact ih fun d hd => h d (List.mem_cons_of_mem _ hd)
/-- what stands behind a mode: nothing, a question mark, two numbers -/
inductive Sfx : List Nat → Prop
  | nil : Sfx []
  | q : Sfx [63]
  | tail {a b : Nat} : a < 10000 → b < 10000 → Sfx (tailL a b)
theorem Sfx.head {s : List Nat} (h : Sfx s) : ∀ c t, s = c :: t → c ≠ 98 ∧ c ≠ 102 := by
  intro c t e
  cases h with
  | nil => cases e
  | q => cases e; decide
  | tail _ _ => cases e; decide
theorem Sfx.free {s : List Nat} (h : Sfx s) : 64 ∉ s := by
  cases h with
  | nil => simp
  | q => decide
  | tail _ _ =>
    unfold tailL
    intro hm
    simp only [List.cons_append, List.mem_cons, List.mem_append] at hm
    rcases hm with h | h | h | h
    · omega
    · exact decL_free (.inr (by decide)) h
    · omega
    · exact decL_free (.inr (by decide)) h
theorem Sfx.mark {m s : List Nat} (hm : Bf m) (h : Sfx s) : markB (m ++ s) = true := by
  unfold markB
  rw [Bf.drop hm h.head]
  cases h with
  | nil => rfl
  | q => rfl
  | @tail a b ha hb =>
    have e : TL.spl [47] 0 [] (tailL a b) = [[], decL a, decL b] := by
      have e1 : tailL a b = [] ++ ([47] ++ (decL a ++ ([47] ++ decL b))) := by simp [tailL]
      rw [e1, TL.spl_part1 (by simp), TL.spl_part1 (decL_free (.inl (by decide))), TL.spl_last1 (decL_free (.inl (by decide)))]
      rfl
    have e2 : threeB (TL.spl [47] 0 [] (tailL a b)) = true := by
      rw [e, threeB, numB_dec (by decide) ha, numB_dec (by decide) hb]
      rfl
    show (_ || _ || threeB (TL.spl [47] 0 [] (tailL a b))) = true
    rw [e2, Bool.or_true]
theorem Bf.free {m : List Nat} (h : Bf m) : 64 ∉ m := fun hm => by rcases h 64 hm with h | h <;> cases h
theorem nw_name {n m s : List Nat} {h : Nat} (hn : nameB (.str n) = true) (hm : Bf m) (hs : Sfx s) (hh : 0 < h) : nameB (.str (nw n m h s)) = true := by
  obtain ⟨k, rfl⟩ : ∃ k, h = k + 1 := ⟨h - 1, by omega⟩
  have e : nw n m (k + 1) s = n ++ List.replicate (k + 1) 64 ++ (m ++ s) := by simp [nw]
  rw [e]
  refine nameB_more hn ?_ (hs.mark hm)
  intro hc
  rcases List.mem_append.mp hc with h | h
  · exact hm.free h
  · exact hs.free h
/-- the last sign @ parts a text -/
theorem last_eq {a b r s : List Nat} (hr : 64 ∉ r) (hs : 64 ∉ s) (h : a ++ 64 :: r = b ++ 64 :: s) : a = b ∧ r = s := by
  have key : ∀ {a b r s : List Nat}, 64 ∉ r → 64 ∉ s → a ++ 64 :: r = b ++ 64 :: s → r.length ≤ s.length → a = b ∧ r = s := by
    intro a b r s hr hs h hl
    have h2 : r = s := by
      have h3 := congrArg (List.drop (a ++ [64]).length) h
      rw [show a ++ 64 :: r = (a ++ [64]) ++ r by simp, List.drop_left] at h3
      have hL := congrArg List.length h
      simp only [List.length_append, List.length_cons] at hL
      by_cases hb : b.length = a.length
      · have q1 : b ++ 64 :: s = (b ++ [64]) ++ s := by simp
        have q2 : (a ++ [64]).length = (b ++ [64]).length := by simp [hb]
        rw [q1, q2, List.drop_left] at h3
        exact h3
      · exfalso
        have hlt : b.length < a.length := by omega
        have h4 := congrArg (fun l => l[a.length]?) h
        simp only [List.getElem?_append_right (Nat.le_refl _), Nat.sub_self, List.getElem?_cons_zero] at h4
        rw [List.getElem?_append_right (by omega)] at h4
        obtain ⟨j, hj⟩ : ∃ j, a.length - b.length = j + 1 := ⟨a.length - b.length - 1, by omega⟩
        rw [hj, List.getElem?_cons_succ] at h4
        exact hs (List.mem_of_getElem? h4.symm)
    subst h2
    exact ⟨List.append_cancel_right h, rfl⟩
  rcases Nat.le_total r.length s.length with hl | hl
  · exact key hr hs h hl
  · obtain ⟨h1, h2⟩ := key hs hr h.symm hl
    exact ⟨h1.symm, h2.symm⟩
theorem nw_inj {n m s n' m' s' : List Nat} {h : Nat} (hh : 0 < h) (hm : Bf m) (hs : Sfx s) (hm' : Bf m') (hs' : Sfx s') : nw n m h s = nw n' m' h s' ↔ n = n' ∧ m = m' ∧ s = s' := by
  constructor
  · intro e
    obtain ⟨k, rfl⟩ : ∃ k, h = k + 1 := ⟨h - 1, by omega⟩
    have e1 : ∀ n m s : List Nat, nw n m (k + 1) s = (n ++ List.replicate k 64) ++ 64 :: (m ++ s) := fun n m s => by
      rw [nw, List.replicate_succ', List.append_assoc, List.append_assoc, List.append_assoc]; simp
    rw [e1, e1] at e
    obtain ⟨h1, h2⟩ := last_eq (fun hc => (List.mem_append.mp hc).elim hm.free hs.free) (fun hc => (List.mem_append.mp hc).elim hm'.free hs'.free) e
    have h3 := congrArg (List.dropWhile fun c => decide (c ∈ [98, 102])) h2
    rw [Bf.drop hm hs.head, Bf.drop hm' hs'.head] at h3
    subst h3
    exact ⟨List.append_cancel_right h1, List.append_cancel_right h2, rfl⟩
  · rintro ⟨rfl, rfl, rfl⟩; rfl
theorem tail_inj {a b c d : Nat} : tailL a b = tailL c d ↔ a = c ∧ b = d := by
  constructor
  · intro e
    have e1 : ∀ a b, TL.spl [47] 0 [] (tailL a b) = [[], decL a, decL b] := fun a b => by
      have e1 : tailL a b = [] ++ ([47] ++ (decL a ++ ([47] ++ decL b))) := by simp [tailL]
      rw [e1, TL.spl_part1 (by simp), TL.spl_part1 (decL_free (.inl (by decide))), TL.spl_last1 (decL_free (.inl (by decide)))]
      rfl
    have e2 := congrArg (TL.spl [47] 0 []) e
    rw [e1, e1] at e2
    simp only [List.cons.injEq, and_true, true_and] at e2
    exact ⟨decL_inj e2.1, decL_inj e2.2⟩
  · rintro ⟨rfl, rfl⟩; rfl
theorem nw_run {n m s : List Nat} {h : Nat} : List.replicate h 64 <:+: nw n m h s := ⟨n, m ++ s, by simp [nw]⟩
theorem nw_ok {n m s : List Nat} {h : Nat} (hn : Ok n) (ln : n.length ≤ 200) (hm : Bf m) (lm : m.length ≤ 200) (hh : h ≤ 200) (hs : Sfx s) : Ok (nw n m h s) := by
  have ls : s.length ≤ 20 := by
    cases hs with
    | nil => decide
    | q => decide
    | tail ha hb =>
      have := decL_len (Nat.lt_trans ha (by decide : 10000 < 1000000000))
      have := decL_len (Nat.lt_trans hb (by decide : 10000 < 1000000000))
      simp [tailL]; omega
  have cs : ∀ c ∈ s, c < 128 := by
    cases hs with
    | nil => simp
    | q => simp
    | @tail a b ha hb =>
      intro c hc
      have hd : ∀ n, c ∈ decL n → c < 128 := fun n h => by have := TL.numL_digits n c h; omega
      unfold tailL at hc
      simp only [List.cons_append, List.mem_cons, List.mem_append] at hc
      rcases hc with h | h | h | h
      · omega
      · exact hd _ h
      · omega
      · exact hd _ h
  refine ⟨fun c hc => ?_, by simp [nw]; omega⟩
  simp only [nw, List.mem_append, List.mem_replicate] at hc
  rcases hc with ((h | h) | h) | h
  · exact hn.1 c h
  · omega
  · rcases hm c h with h | h <;> omega
  · have := cs c h; omega
end Z

set_option Elab.async false
set_option linter.all false
set_option maxHeartbeats 1000000
set_option maxRecDepth 100000
/-! PWord: the laws' own words with marks. -/
namespace Z
open PySem
theorem k1_word {s : List Nat} (h : Ok s) (h64 : 64 ∉ s) : nameB (.str s) = wordB s := by
  rw [nameB, spl_one h64]
  simp
theorem str_menu {m : List Nat} (hz : m.length ≤ 1000) {v : Nat} (h : v < m.length) : ∃ c, c ∈ m ∧ idxD (.str m) (.int v) = some (.str [c]) := ⟨m[v], List.getElem_mem h, str_get (sz hz) h⟩
theorem word_ok {fs : List Int} (hf : Small fs) : ∃ (s : List Nat) (fs' : List Int), Ok s ∧ s.length ≤ 80 ∧ nameB (.str s) = true ∧ Small fs' ∧ F_law_word.sem [(.io, flw fs)] = .ok (.fz (.str s)) [flw fs'] := by
  rw [F_law_word_sem]
  suffices ∃ r outs, runF 1 3 B_law_word [(.io, flw fs)] = .ok r outs ∧ ∃ (s : List Nat) (fs' : List Int), Ok s ∧ s.length ≤ 80 ∧ nameB (.str s) = true ∧ Small fs' ∧ r = .fz (.str s) ∧ outs = [flw fs'] by
    obtain ⟨r, outs, e, s, fs', h1, h2, h3, h4, rfl, rfl⟩ := this
    exact ⟨s, fs', h1, h2, h3, h4, e⟩
  refine runF_to (np := 1) _ rfl fun En hrt hnx => ?_; simp only [List.map_cons, List.map_nil, List.replicate, Nat.reduceSub, List.replicate_zero, List.cons_append, List.nil_append, B_law_word, T_law_word_0_0]
  simp only [↓We_var, ↓We_int, ↓We_str, ↓We_bl, ↓We_non, ↓We_gl, ↓We_dspc, ↓We_fs, ↓We_tup, ↓We_lst, ↓We_op1, ↓We_op2, ↓We_sm1, ↓We_slc, ↓We_isi, ↓We_and, ↓We_or, ↓We_one, ↓We_not, ↓We_ife, ↓We_chn, ↓We_pop, ↓We_call, ↓We_callk, ↓We_comp, ↓Wr_var, ↓Wr_int, ↓Wr_str, ↓Wr_bl, ↓Wr_non, ↓Wr_gl, ↓Wr_dspc, ↓Wr_fs, ↓Wr_tup, ↓Wr_lst, ↓Wr_op1, ↓Wr_op2, ↓Wr_sm1, ↓Wr_slc, ↓Wr_isi, ↓Wr_and, ↓Wr_or, ↓Wr_not, ↓Wr_ife, ↓Wr_chn, ↓Wr_pop, ↓Wr_call, ↓Wr_callk, ↓Wr_comp, ↓Ws_set, ↓Ws_unp, ↓Ws_unps, ↓Ws_app, ↓Ws_seti, ↓Ws_setf, ↓Ws_expr, ↓Ws_ife, ↓Ws_for, ↓Ws_while, ↓Ws_ret, ↓Ws_retv, ↓Ws_retn, ↓Ws_brk, ↓Ws_cont, ↓Ws_pass, ↓Wss_cons, ↓Wss_nil, ↓Wes_nil, ↓Wes_cons, ↓Wo_none, ↓Wo_some, ↓Was_nil, ↓Was_ev, ↓Was_pk, ↓Wcall_def, catA_nil, catA_cons, ↓Wsrc_seq, ↓Wsrc_rng1, ↓Wsrc_rng2, ↓Wsrc_zip, ↓seq_nx, ↓seq_rt, ↓seq_bk, ↓seq_ct, ↓seq_ex, ↓W1_some, ↓WJ_some, ↓W1_none, ↓WJ_none, ↓Wf_fz, ↓Wf_lst, ↓Wf_dct, ↓Wf_obj, ↓Wb_bl, ↓Wi_int, ↓Wif_true, ↓Wif_false, ↓Wv_fz, ↓Wv_ow, ↓Wv_owd, ↓Wv_owo, ↓Wsem_ok, ↓setR_fz, ↓setR_fr, ↓Wrv_some, ↓Wpk_some, ↓Wunp_fz, ↓Wunps_lst, ↓WisL_lst, ↓Wapp_ow, ↓Wapp_io, ↓Wseti_ow, ↓Wseti_io, ↓Wretv_fz, ↓Wretv_ow, ↓Wpop_io, ↓Wpop_ow, ↓Wturn_none, ↓Wturn_some, ↓accO_some, ↓accO_none, ↓res_val, ↓res_pk, ↓slotD_0, ↓slotD_s, W1_some, WJ_some, W1_none, WJ_none, Wf_fz, Wf_lst, Wf_dct, Wf_obj, Wb_bl, Wi_int, Wif_true, Wif_false, Wv_fz, Wv_ow, Wv_owd, Wv_owo, Wsem_ok, setR_fz, setR_fr, Wrv_some, Wpk_some, Wunp_fz, Wunps_lst, WisL_lst, Wapp_ow, Wapp_io, Wseti_ow, Wseti_io, Wretv_fz, Wretv_ow, Wpop_io, Wpop_ow, accO_some, accO_none, Int.reduceLT, Int.reduceLE, Nat.reduceLT, Nat.reduceLeDiff, Int.reduceToNat, Int.reduceAdd, Int.reduceSub, Int.reduceMul, Int.reduceNeg, decide_true, decide_false, Bool.or_true, Bool.true_or, Bool.or_false, Bool.false_or, Bool.and_true, Bool.true_and, Bool.and_false, Bool.false_and, Bool.not_true, Bool.not_false, and_true, true_and, Option.map_some, Option.map_none, Option.bind_some, Option.bind_none, List.set_cons_zero, List.set_cons_succ, k1_len_str, k1_len_tup, k1_len_lst, k1_len_frl, k1_abs, k1_neg, k1_int, k1_intb, k1_tuple_lst, k1_tuple_tup, k1_list_lst, k1_list_tup, k1_rev, k1_isN, k1_notN, k2_add, k2_add_str, k2_add_lst, k2_sub, k1_isT, k1_notT, k2_mul, k2_muls, k2_fdiv, k2_mod, k2_pow6, k2_pow18, k2_pow12, k2_lt, k2_le, k2_gt, k2_ge, k2_eq, k2_ne, k2_in, k2_notin, k2_idx, idx_0, idx_1, idx_2, idx_3, idt_0, idt_1, idt_2, idt_3, k2_max, slc_str, slc_lst, slc_frl, seq_lst, seq_tup, seq_str, turnE_nx, turnE_ct, turnE_rt, turnE_bk, wipeD, backW, freeT_nil, freeT_cons, freeT1_none, freeT1_fz, freeT1_fzs, lockI, lockD_n, lockD_s, openD_n, openD_s, bindT_1, bindT_2, bindM, size_le, List.foldl_cons, List.foldl_nil, List.all_cons, List.all_nil, List.getElem?_cons_zero, List.getElem?_cons_succ, Option.join_some, Option.join_none, List.zip_cons_cons, List.zip_nil_left, List.length_cons, List.length_nil, List.length_append, Nat.reduceAdd, Nat.reduceEqDiff, Bool.false_eq_true, if_true, if_false, ↓reduceIte, ite_true, ite_false, ki_int_int, ki_int_str, ki_int_bool, ki_int_list, ki_int_tuple, ki_int_dict, ki_bl_int, ki_bl_str, ki_bl_bool, ki_bl_list, ki_bl_tuple, ki_bl_dict, ki_str_int, ki_str_str, ki_str_bool, ki_str_list, ki_str_tuple, ki_str_dict, ki_lst_int, ki_lst_str, ki_lst_bool, ki_lst_list, ki_lst_tuple, ki_lst_dict, ki_frl_int, ki_frl_str, ki_frl_bool, ki_frl_list, ki_frl_tuple, ki_frl_dict, ki_tup_int, ki_tup_str, ki_tup_bool, ki_tup_list, ki_tup_tuple, ki_tup_dict, ki_dct_int, ki_dct_str, ki_dct_bool, ki_dct_list, ki_dct_tuple, ki_dct_dict, ki_non_int, ki_non_str, ki_non_bool, ki_non_list, ki_non_tuple, ki_non_dict, kis_nil, kis_t, kis_f, Z.argsOf, Z.argOf, Z.backTo, Z.outsOf, List.any_nil, List.any_cons]
  obtain ⟨v, fs, v_lt, hf, e_dr⟩ := draw_ok hf (n := 26) (by first | decide | omega); simp only [↓We_var, ↓We_int, ↓We_str, ↓We_bl, ↓We_non, ↓We_gl, ↓We_dspc, ↓We_fs, ↓We_tup, ↓We_lst, ↓We_op1, ↓We_op2, ↓We_sm1, ↓We_slc, ↓We_isi, ↓We_and, ↓We_or, ↓We_one, ↓We_not, ↓We_ife, ↓We_chn, ↓We_pop, ↓We_call, ↓We_callk, ↓We_comp, ↓Wr_var, ↓Wr_int, ↓Wr_str, ↓Wr_bl, ↓Wr_non, ↓Wr_gl, ↓Wr_dspc, ↓Wr_fs, ↓Wr_tup, ↓Wr_lst, ↓Wr_op1, ↓Wr_op2, ↓Wr_sm1, ↓Wr_slc, ↓Wr_isi, ↓Wr_and, ↓Wr_or, ↓Wr_not, ↓Wr_ife, ↓Wr_chn, ↓Wr_pop, ↓Wr_call, ↓Wr_callk, ↓Wr_comp, ↓Ws_set, ↓Ws_unp, ↓Ws_unps, ↓Ws_app, ↓Ws_seti, ↓Ws_setf, ↓Ws_expr, ↓Ws_ife, ↓Ws_for, ↓Ws_while, ↓Ws_ret, ↓Ws_retv, ↓Ws_retn, ↓Ws_brk, ↓Ws_cont, ↓Ws_pass, ↓Wss_cons, ↓Wss_nil, ↓Wes_nil, ↓Wes_cons, ↓Wo_none, ↓Wo_some, ↓Was_nil, ↓Was_ev, ↓Was_pk, ↓Wcall_def, catA_nil, catA_cons, ↓Wsrc_seq, ↓Wsrc_rng1, ↓Wsrc_rng2, ↓Wsrc_zip, ↓seq_nx, ↓seq_rt, ↓seq_bk, ↓seq_ct, ↓seq_ex, ↓W1_some, ↓WJ_some, ↓W1_none, ↓WJ_none, ↓Wf_fz, ↓Wf_lst, ↓Wf_dct, ↓Wf_obj, ↓Wb_bl, ↓Wi_int, ↓Wif_true, ↓Wif_false, ↓Wv_fz, ↓Wv_ow, ↓Wv_owd, ↓Wv_owo, ↓Wsem_ok, ↓setR_fz, ↓setR_fr, ↓Wrv_some, ↓Wpk_some, ↓Wunp_fz, ↓Wunps_lst, ↓WisL_lst, ↓Wapp_ow, ↓Wapp_io, ↓Wseti_ow, ↓Wseti_io, ↓Wretv_fz, ↓Wretv_ow, ↓Wpop_io, ↓Wpop_ow, ↓Wturn_none, ↓Wturn_some, ↓accO_some, ↓accO_none, ↓res_val, ↓res_pk, ↓slotD_0, ↓slotD_s, W1_some, WJ_some, W1_none, WJ_none, Wf_fz, Wf_lst, Wf_dct, Wf_obj, Wb_bl, Wi_int, Wif_true, Wif_false, Wv_fz, Wv_ow, Wv_owd, Wv_owo, Wsem_ok, setR_fz, setR_fr, Wrv_some, Wpk_some, Wunp_fz, Wunps_lst, WisL_lst, Wapp_ow, Wapp_io, Wseti_ow, Wseti_io, Wretv_fz, Wretv_ow, Wpop_io, Wpop_ow, accO_some, accO_none, Int.reduceLT, Int.reduceLE, Nat.reduceLT, Nat.reduceLeDiff, Int.reduceToNat, Int.reduceAdd, Int.reduceSub, Int.reduceMul, Int.reduceNeg, decide_true, decide_false, Bool.or_true, Bool.true_or, Bool.or_false, Bool.false_or, Bool.and_true, Bool.true_and, Bool.and_false, Bool.false_and, Bool.not_true, Bool.not_false, and_true, true_and, Option.map_some, Option.map_none, Option.bind_some, Option.bind_none, List.set_cons_zero, List.set_cons_succ, k1_len_str, k1_len_tup, k1_len_lst, k1_len_frl, k1_abs, k1_neg, k1_int, k1_intb, k1_tuple_lst, k1_tuple_tup, k1_list_lst, k1_list_tup, k1_rev, k1_isN, k1_notN, k2_add, k2_add_str, k2_add_lst, k2_sub, k1_isT, k1_notT, k2_mul, k2_muls, k2_fdiv, k2_mod, k2_pow6, k2_pow18, k2_pow12, k2_lt, k2_le, k2_gt, k2_ge, k2_eq, k2_ne, k2_in, k2_notin, k2_idx, idx_0, idx_1, idx_2, idx_3, idt_0, idt_1, idt_2, idt_3, k2_max, slc_str, slc_lst, slc_frl, seq_lst, seq_tup, seq_str, turnE_nx, turnE_ct, turnE_rt, turnE_bk, wipeD, backW, freeT_nil, freeT_cons, freeT1_none, freeT1_fz, freeT1_fzs, lockI, lockD_n, lockD_s, openD_n, openD_s, bindT_1, bindT_2, bindM, size_le, List.foldl_cons, List.foldl_nil, List.all_cons, List.all_nil, List.getElem?_cons_zero, List.getElem?_cons_succ, Option.join_some, Option.join_none, List.zip_cons_cons, List.zip_nil_left, List.length_cons, List.length_nil, List.length_append, Nat.reduceAdd, Nat.reduceEqDiff, Bool.false_eq_true, if_true, if_false, ↓reduceIte, ite_true, ite_false, ki_int_int, ki_int_str, ki_int_bool, ki_int_list, ki_int_tuple, ki_int_dict, ki_bl_int, ki_bl_str, ki_bl_bool, ki_bl_list, ki_bl_tuple, ki_bl_dict, ki_str_int, ki_str_str, ki_str_bool, ki_str_list, ki_str_tuple, ki_str_dict, ki_lst_int, ki_lst_str, ki_lst_bool, ki_lst_list, ki_lst_tuple, ki_lst_dict, ki_frl_int, ki_frl_str, ki_frl_bool, ki_frl_list, ki_frl_tuple, ki_frl_dict, ki_tup_int, ki_tup_str, ki_tup_bool, ki_tup_list, ki_tup_tuple, ki_tup_dict, ki_dct_int, ki_dct_str, ki_dct_bool, ki_dct_list, ki_dct_tuple, ki_dct_dict, ki_non_int, ki_non_str, ki_non_bool, ki_non_list, ki_non_tuple, ki_non_dict, kis_nil, kis_t, kis_f, Z.argsOf, Z.argOf, Z.backTo, Z.outsOf, List.any_nil, List.any_cons, e_dr]; clear e_dr
  obtain ⟨c0, hc0, e0⟩ := str_menu (m := SML) (v := v) (by decide) (by simp [SML]; omega)
  simp only [SML] at e0
  simp only [↓We_var, ↓We_int, ↓We_str, ↓We_bl, ↓We_non, ↓We_gl, ↓We_dspc, ↓We_fs, ↓We_tup, ↓We_lst, ↓We_op1, ↓We_op2, ↓We_sm1, ↓We_slc, ↓We_isi, ↓We_and, ↓We_or, ↓We_one, ↓We_not, ↓We_ife, ↓We_chn, ↓We_pop, ↓We_call, ↓We_callk, ↓We_comp, ↓Wr_var, ↓Wr_int, ↓Wr_str, ↓Wr_bl, ↓Wr_non, ↓Wr_gl, ↓Wr_dspc, ↓Wr_fs, ↓Wr_tup, ↓Wr_lst, ↓Wr_op1, ↓Wr_op2, ↓Wr_sm1, ↓Wr_slc, ↓Wr_isi, ↓Wr_and, ↓Wr_or, ↓Wr_not, ↓Wr_ife, ↓Wr_chn, ↓Wr_pop, ↓Wr_call, ↓Wr_callk, ↓Wr_comp, ↓Ws_set, ↓Ws_unp, ↓Ws_unps, ↓Ws_app, ↓Ws_seti, ↓Ws_setf, ↓Ws_expr, ↓Ws_ife, ↓Ws_for, ↓Ws_while, ↓Ws_ret, ↓Ws_retv, ↓Ws_retn, ↓Ws_brk, ↓Ws_cont, ↓Ws_pass, ↓Wss_cons, ↓Wss_nil, ↓Wes_nil, ↓Wes_cons, ↓Wo_none, ↓Wo_some, ↓Was_nil, ↓Was_ev, ↓Was_pk, ↓Wcall_def, catA_nil, catA_cons, ↓Wsrc_seq, ↓Wsrc_rng1, ↓Wsrc_rng2, ↓Wsrc_zip, ↓seq_nx, ↓seq_rt, ↓seq_bk, ↓seq_ct, ↓seq_ex, ↓W1_some, ↓WJ_some, ↓W1_none, ↓WJ_none, ↓Wf_fz, ↓Wf_lst, ↓Wf_dct, ↓Wf_obj, ↓Wb_bl, ↓Wi_int, ↓Wif_true, ↓Wif_false, ↓Wv_fz, ↓Wv_ow, ↓Wv_owd, ↓Wv_owo, ↓Wsem_ok, ↓setR_fz, ↓setR_fr, ↓Wrv_some, ↓Wpk_some, ↓Wunp_fz, ↓Wunps_lst, ↓WisL_lst, ↓Wapp_ow, ↓Wapp_io, ↓Wseti_ow, ↓Wseti_io, ↓Wretv_fz, ↓Wretv_ow, ↓Wpop_io, ↓Wpop_ow, ↓Wturn_none, ↓Wturn_some, ↓accO_some, ↓accO_none, ↓res_val, ↓res_pk, ↓slotD_0, ↓slotD_s, W1_some, WJ_some, W1_none, WJ_none, Wf_fz, Wf_lst, Wf_dct, Wf_obj, Wb_bl, Wi_int, Wif_true, Wif_false, Wv_fz, Wv_ow, Wv_owd, Wv_owo, Wsem_ok, setR_fz, setR_fr, Wrv_some, Wpk_some, Wunp_fz, Wunps_lst, WisL_lst, Wapp_ow, Wapp_io, Wseti_ow, Wseti_io, Wretv_fz, Wretv_ow, Wpop_io, Wpop_ow, accO_some, accO_none, Int.reduceLT, Int.reduceLE, Nat.reduceLT, Nat.reduceLeDiff, Int.reduceToNat, Int.reduceAdd, Int.reduceSub, Int.reduceMul, Int.reduceNeg, decide_true, decide_false, Bool.or_true, Bool.true_or, Bool.or_false, Bool.false_or, Bool.and_true, Bool.true_and, Bool.and_false, Bool.false_and, Bool.not_true, Bool.not_false, and_true, true_and, Option.map_some, Option.map_none, Option.bind_some, Option.bind_none, List.set_cons_zero, List.set_cons_succ, k1_len_str, k1_len_tup, k1_len_lst, k1_len_frl, k1_abs, k1_neg, k1_int, k1_intb, k1_tuple_lst, k1_tuple_tup, k1_list_lst, k1_list_tup, k1_rev, k1_isN, k1_notN, k2_add, k2_add_str, k2_add_lst, k2_sub, k1_isT, k1_notT, k2_mul, k2_muls, k2_fdiv, k2_mod, k2_pow6, k2_pow18, k2_pow12, k2_lt, k2_le, k2_gt, k2_ge, k2_eq, k2_ne, k2_in, k2_notin, k2_idx, idx_0, idx_1, idx_2, idx_3, idt_0, idt_1, idt_2, idt_3, k2_max, slc_str, slc_lst, slc_frl, seq_lst, seq_tup, seq_str, turnE_nx, turnE_ct, turnE_rt, turnE_bk, wipeD, backW, freeT_nil, freeT_cons, freeT1_none, freeT1_fz, freeT1_fzs, lockI, lockD_n, lockD_s, openD_n, openD_s, bindT_1, bindT_2, bindM, size_le, List.foldl_cons, List.foldl_nil, List.all_cons, List.all_nil, List.getElem?_cons_zero, List.getElem?_cons_succ, Option.join_some, Option.join_none, List.zip_cons_cons, List.zip_nil_left, List.length_cons, List.length_nil, List.length_append, Nat.reduceAdd, Nat.reduceEqDiff, Bool.false_eq_true, if_true, if_false, ↓reduceIte, ite_true, ite_false, ki_int_int, ki_int_str, ki_int_bool, ki_int_list, ki_int_tuple, ki_int_dict, ki_bl_int, ki_bl_str, ki_bl_bool, ki_bl_list, ki_bl_tuple, ki_bl_dict, ki_str_int, ki_str_str, ki_str_bool, ki_str_list, ki_str_tuple, ki_str_dict, ki_lst_int, ki_lst_str, ki_lst_bool, ki_lst_list, ki_lst_tuple, ki_lst_dict, ki_frl_int, ki_frl_str, ki_frl_bool, ki_frl_list, ki_frl_tuple, ki_frl_dict, ki_tup_int, ki_tup_str, ki_tup_bool, ki_tup_list, ki_tup_tuple, ki_tup_dict, ki_dct_int, ki_dct_str, ki_dct_bool, ki_dct_list, ki_dct_tuple, ki_dct_dict, ki_non_int, ki_non_str, ki_non_bool, ki_non_list, ki_non_tuple, ki_non_dict, kis_nil, kis_t, kis_f, Z.argsOf, Z.argOf, Z.backTo, Z.outsOf, List.any_nil, List.any_cons, e0, T_law_word_0_1]
  obtain ⟨v, fs, v_lt, hf, e_dr⟩ := draw_ok hf (n := 12) (by first | decide | omega); simp only [↓We_var, ↓We_int, ↓We_str, ↓We_bl, ↓We_non, ↓We_gl, ↓We_dspc, ↓We_fs, ↓We_tup, ↓We_lst, ↓We_op1, ↓We_op2, ↓We_sm1, ↓We_slc, ↓We_isi, ↓We_and, ↓We_or, ↓We_one, ↓We_not, ↓We_ife, ↓We_chn, ↓We_pop, ↓We_call, ↓We_callk, ↓We_comp, ↓Wr_var, ↓Wr_int, ↓Wr_str, ↓Wr_bl, ↓Wr_non, ↓Wr_gl, ↓Wr_dspc, ↓Wr_fs, ↓Wr_tup, ↓Wr_lst, ↓Wr_op1, ↓Wr_op2, ↓Wr_sm1, ↓Wr_slc, ↓Wr_isi, ↓Wr_and, ↓Wr_or, ↓Wr_not, ↓Wr_ife, ↓Wr_chn, ↓Wr_pop, ↓Wr_call, ↓Wr_callk, ↓Wr_comp, ↓Ws_set, ↓Ws_unp, ↓Ws_unps, ↓Ws_app, ↓Ws_seti, ↓Ws_setf, ↓Ws_expr, ↓Ws_ife, ↓Ws_for, ↓Ws_while, ↓Ws_ret, ↓Ws_retv, ↓Ws_retn, ↓Ws_brk, ↓Ws_cont, ↓Ws_pass, ↓Wss_cons, ↓Wss_nil, ↓Wes_nil, ↓Wes_cons, ↓Wo_none, ↓Wo_some, ↓Was_nil, ↓Was_ev, ↓Was_pk, ↓Wcall_def, catA_nil, catA_cons, ↓Wsrc_seq, ↓Wsrc_rng1, ↓Wsrc_rng2, ↓Wsrc_zip, ↓seq_nx, ↓seq_rt, ↓seq_bk, ↓seq_ct, ↓seq_ex, ↓W1_some, ↓WJ_some, ↓W1_none, ↓WJ_none, ↓Wf_fz, ↓Wf_lst, ↓Wf_dct, ↓Wf_obj, ↓Wb_bl, ↓Wi_int, ↓Wif_true, ↓Wif_false, ↓Wv_fz, ↓Wv_ow, ↓Wv_owd, ↓Wv_owo, ↓Wsem_ok, ↓setR_fz, ↓setR_fr, ↓Wrv_some, ↓Wpk_some, ↓Wunp_fz, ↓Wunps_lst, ↓WisL_lst, ↓Wapp_ow, ↓Wapp_io, ↓Wseti_ow, ↓Wseti_io, ↓Wretv_fz, ↓Wretv_ow, ↓Wpop_io, ↓Wpop_ow, ↓Wturn_none, ↓Wturn_some, ↓accO_some, ↓accO_none, ↓res_val, ↓res_pk, ↓slotD_0, ↓slotD_s, W1_some, WJ_some, W1_none, WJ_none, Wf_fz, Wf_lst, Wf_dct, Wf_obj, Wb_bl, Wi_int, Wif_true, Wif_false, Wv_fz, Wv_ow, Wv_owd, Wv_owo, Wsem_ok, setR_fz, setR_fr, Wrv_some, Wpk_some, Wunp_fz, Wunps_lst, WisL_lst, Wapp_ow, Wapp_io, Wseti_ow, Wseti_io, Wretv_fz, Wretv_ow, Wpop_io, Wpop_ow, accO_some, accO_none, Int.reduceLT, Int.reduceLE, Nat.reduceLT, Nat.reduceLeDiff, Int.reduceToNat, Int.reduceAdd, Int.reduceSub, Int.reduceMul, Int.reduceNeg, decide_true, decide_false, Bool.or_true, Bool.true_or, Bool.or_false, Bool.false_or, Bool.and_true, Bool.true_and, Bool.and_false, Bool.false_and, Bool.not_true, Bool.not_false, and_true, true_and, Option.map_some, Option.map_none, Option.bind_some, Option.bind_none, List.set_cons_zero, List.set_cons_succ, k1_len_str, k1_len_tup, k1_len_lst, k1_len_frl, k1_abs, k1_neg, k1_int, k1_intb, k1_tuple_lst, k1_tuple_tup, k1_list_lst, k1_list_tup, k1_rev, k1_isN, k1_notN, k2_add, k2_add_str, k2_add_lst, k2_sub, k1_isT, k1_notT, k2_mul, k2_muls, k2_fdiv, k2_mod, k2_pow6, k2_pow18, k2_pow12, k2_lt, k2_le, k2_gt, k2_ge, k2_eq, k2_ne, k2_in, k2_notin, k2_idx, idx_0, idx_1, idx_2, idx_3, idt_0, idt_1, idt_2, idt_3, k2_max, slc_str, slc_lst, slc_frl, seq_lst, seq_tup, seq_str, turnE_nx, turnE_ct, turnE_rt, turnE_bk, wipeD, backW, freeT_nil, freeT_cons, freeT1_none, freeT1_fz, freeT1_fzs, lockI, lockD_n, lockD_s, openD_n, openD_s, bindT_1, bindT_2, bindM, size_le, List.foldl_cons, List.foldl_nil, List.all_cons, List.all_nil, List.getElem?_cons_zero, List.getElem?_cons_succ, Option.join_some, Option.join_none, List.zip_cons_cons, List.zip_nil_left, List.length_cons, List.length_nil, List.length_append, Nat.reduceAdd, Nat.reduceEqDiff, Bool.false_eq_true, if_true, if_false, ↓reduceIte, ite_true, ite_false, ki_int_int, ki_int_str, ki_int_bool, ki_int_list, ki_int_tuple, ki_int_dict, ki_bl_int, ki_bl_str, ki_bl_bool, ki_bl_list, ki_bl_tuple, ki_bl_dict, ki_str_int, ki_str_str, ki_str_bool, ki_str_list, ki_str_tuple, ki_str_dict, ki_lst_int, ki_lst_str, ki_lst_bool, ki_lst_list, ki_lst_tuple, ki_lst_dict, ki_frl_int, ki_frl_str, ki_frl_bool, ki_frl_list, ki_frl_tuple, ki_frl_dict, ki_tup_int, ki_tup_str, ki_tup_bool, ki_tup_list, ki_tup_tuple, ki_tup_dict, ki_dct_int, ki_dct_str, ki_dct_bool, ki_dct_list, ki_dct_tuple, ki_dct_dict, ki_non_int, ki_non_str, ki_non_bool, ki_non_list, ki_non_tuple, ki_non_dict, kis_nil, kis_t, kis_f, Z.argsOf, Z.argOf, Z.backTo, Z.outsOf, List.any_nil, List.any_cons, e_dr]; clear e_dr
  refine ⟨range62_lit (by omega), ?_⟩
  rw [Int.toNat_natCast]
  refine Wfor.rng (fun i δ => ∃ (a : Option D) (fs : List Int) (s : List Nat), Small fs ∧ (∀ c ∈ s, c ∈ SML ++ DIG) ∧ s.length = i ∧ δ = [some (.io, flw fs), some (.fz, .str (c0 :: s)), fzs a]) ⟨none, fs, [], hf, by simp, rfl, rfl⟩ ?_ ?_
  · rintro i δ hi ⟨a, fs, s, hf, hs, hl, rfl⟩
    simp only [↓We_var, ↓We_int, ↓We_str, ↓We_bl, ↓We_non, ↓We_gl, ↓We_dspc, ↓We_fs, ↓We_tup, ↓We_lst, ↓We_op1, ↓We_op2, ↓We_sm1, ↓We_slc, ↓We_isi, ↓We_and, ↓We_or, ↓We_one, ↓We_not, ↓We_ife, ↓We_chn, ↓We_pop, ↓We_call, ↓We_callk, ↓We_comp, ↓Wr_var, ↓Wr_int, ↓Wr_str, ↓Wr_bl, ↓Wr_non, ↓Wr_gl, ↓Wr_dspc, ↓Wr_fs, ↓Wr_tup, ↓Wr_lst, ↓Wr_op1, ↓Wr_op2, ↓Wr_sm1, ↓Wr_slc, ↓Wr_isi, ↓Wr_and, ↓Wr_or, ↓Wr_not, ↓Wr_ife, ↓Wr_chn, ↓Wr_pop, ↓Wr_call, ↓Wr_callk, ↓Wr_comp, ↓Ws_set, ↓Ws_unp, ↓Ws_unps, ↓Ws_app, ↓Ws_seti, ↓Ws_setf, ↓Ws_expr, ↓Ws_ife, ↓Ws_for, ↓Ws_while, ↓Ws_ret, ↓Ws_retv, ↓Ws_retn, ↓Ws_brk, ↓Ws_cont, ↓Ws_pass, ↓Wss_cons, ↓Wss_nil, ↓Wes_nil, ↓Wes_cons, ↓Wo_none, ↓Wo_some, ↓Was_nil, ↓Was_ev, ↓Was_pk, ↓Wcall_def, catA_nil, catA_cons, ↓Wsrc_seq, ↓Wsrc_rng1, ↓Wsrc_rng2, ↓Wsrc_zip, ↓seq_nx, ↓seq_rt, ↓seq_bk, ↓seq_ct, ↓seq_ex, ↓W1_some, ↓WJ_some, ↓W1_none, ↓WJ_none, ↓Wf_fz, ↓Wf_lst, ↓Wf_dct, ↓Wf_obj, ↓Wb_bl, ↓Wi_int, ↓Wif_true, ↓Wif_false, ↓Wv_fz, ↓Wv_ow, ↓Wv_owd, ↓Wv_owo, ↓Wsem_ok, ↓setR_fz, ↓setR_fr, ↓Wrv_some, ↓Wpk_some, ↓Wunp_fz, ↓Wunps_lst, ↓WisL_lst, ↓Wapp_ow, ↓Wapp_io, ↓Wseti_ow, ↓Wseti_io, ↓Wretv_fz, ↓Wretv_ow, ↓Wpop_io, ↓Wpop_ow, ↓Wturn_none, ↓Wturn_some, ↓accO_some, ↓accO_none, ↓res_val, ↓res_pk, ↓slotD_0, ↓slotD_s, W1_some, WJ_some, W1_none, WJ_none, Wf_fz, Wf_lst, Wf_dct, Wf_obj, Wb_bl, Wi_int, Wif_true, Wif_false, Wv_fz, Wv_ow, Wv_owd, Wv_owo, Wsem_ok, setR_fz, setR_fr, Wrv_some, Wpk_some, Wunp_fz, Wunps_lst, WisL_lst, Wapp_ow, Wapp_io, Wseti_ow, Wseti_io, Wretv_fz, Wretv_ow, Wpop_io, Wpop_ow, accO_some, accO_none, Int.reduceLT, Int.reduceLE, Nat.reduceLT, Nat.reduceLeDiff, Int.reduceToNat, Int.reduceAdd, Int.reduceSub, Int.reduceMul, Int.reduceNeg, decide_true, decide_false, Bool.or_true, Bool.true_or, Bool.or_false, Bool.false_or, Bool.and_true, Bool.true_and, Bool.and_false, Bool.false_and, Bool.not_true, Bool.not_false, and_true, true_and, Option.map_some, Option.map_none, Option.bind_some, Option.bind_none, List.set_cons_zero, List.set_cons_succ, k1_len_str, k1_len_tup, k1_len_lst, k1_len_frl, k1_abs, k1_neg, k1_int, k1_intb, k1_tuple_lst, k1_tuple_tup, k1_list_lst, k1_list_tup, k1_rev, k1_isN, k1_notN, k2_add, k2_add_str, k2_add_lst, k2_sub, k1_isT, k1_notT, k2_mul, k2_muls, k2_fdiv, k2_mod, k2_pow6, k2_pow18, k2_pow12, k2_lt, k2_le, k2_gt, k2_ge, k2_eq, k2_ne, k2_in, k2_notin, k2_idx, idx_0, idx_1, idx_2, idx_3, idt_0, idt_1, idt_2, idt_3, k2_max, slc_str, slc_lst, slc_frl, seq_lst, seq_tup, seq_str, turnE_nx, turnE_ct, turnE_rt, turnE_bk, wipeD, backW, freeT_nil, freeT_cons, freeT1_none, freeT1_fz, freeT1_fzs, lockI, lockD_n, lockD_s, openD_n, openD_s, bindT_1, bindT_2, bindM, size_le, List.foldl_cons, List.foldl_nil, List.all_cons, List.all_nil, List.getElem?_cons_zero, List.getElem?_cons_succ, Option.join_some, Option.join_none, List.zip_cons_cons, List.zip_nil_left, List.length_cons, List.length_nil, List.length_append, Nat.reduceAdd, Nat.reduceEqDiff, Bool.false_eq_true, if_true, if_false, ↓reduceIte, ite_true, ite_false, ki_int_int, ki_int_str, ki_int_bool, ki_int_list, ki_int_tuple, ki_int_dict, ki_bl_int, ki_bl_str, ki_bl_bool, ki_bl_list, ki_bl_tuple, ki_bl_dict, ki_str_int, ki_str_str, ki_str_bool, ki_str_list, ki_str_tuple, ki_str_dict, ki_lst_int, ki_lst_str, ki_lst_bool, ki_lst_list, ki_lst_tuple, ki_lst_dict, ki_frl_int, ki_frl_str, ki_frl_bool, ki_frl_list, ki_frl_tuple, ki_frl_dict, ki_tup_int, ki_tup_str, ki_tup_bool, ki_tup_list, ki_tup_tuple, ki_tup_dict, ki_dct_int, ki_dct_str, ki_dct_bool, ki_dct_list, ki_dct_tuple, ki_dct_dict, ki_non_int, ki_non_str, ki_non_bool, ki_non_list, ki_non_tuple, ki_non_dict, kis_nil, kis_t, kis_f, Z.argsOf, Z.argOf, Z.backTo, Z.outsOf, List.any_nil, List.any_cons, T_law_word_1_0]
    obtain ⟨u, fs, u_lt, hf, e_dr⟩ := draw_ok hf (n := 36) (by first | decide | omega); simp only [↓We_var, ↓We_int, ↓We_str, ↓We_bl, ↓We_non, ↓We_gl, ↓We_dspc, ↓We_fs, ↓We_tup, ↓We_lst, ↓We_op1, ↓We_op2, ↓We_sm1, ↓We_slc, ↓We_isi, ↓We_and, ↓We_or, ↓We_one, ↓We_not, ↓We_ife, ↓We_chn, ↓We_pop, ↓We_call, ↓We_callk, ↓We_comp, ↓Wr_var, ↓Wr_int, ↓Wr_str, ↓Wr_bl, ↓Wr_non, ↓Wr_gl, ↓Wr_dspc, ↓Wr_fs, ↓Wr_tup, ↓Wr_lst, ↓Wr_op1, ↓Wr_op2, ↓Wr_sm1, ↓Wr_slc, ↓Wr_isi, ↓Wr_and, ↓Wr_or, ↓Wr_not, ↓Wr_ife, ↓Wr_chn, ↓Wr_pop, ↓Wr_call, ↓Wr_callk, ↓Wr_comp, ↓Ws_set, ↓Ws_unp, ↓Ws_unps, ↓Ws_app, ↓Ws_seti, ↓Ws_setf, ↓Ws_expr, ↓Ws_ife, ↓Ws_for, ↓Ws_while, ↓Ws_ret, ↓Ws_retv, ↓Ws_retn, ↓Ws_brk, ↓Ws_cont, ↓Ws_pass, ↓Wss_cons, ↓Wss_nil, ↓Wes_nil, ↓Wes_cons, ↓Wo_none, ↓Wo_some, ↓Was_nil, ↓Was_ev, ↓Was_pk, ↓Wcall_def, catA_nil, catA_cons, ↓Wsrc_seq, ↓Wsrc_rng1, ↓Wsrc_rng2, ↓Wsrc_zip, ↓seq_nx, ↓seq_rt, ↓seq_bk, ↓seq_ct, ↓seq_ex, ↓W1_some, ↓WJ_some, ↓W1_none, ↓WJ_none, ↓Wf_fz, ↓Wf_lst, ↓Wf_dct, ↓Wf_obj, ↓Wb_bl, ↓Wi_int, ↓Wif_true, ↓Wif_false, ↓Wv_fz, ↓Wv_ow, ↓Wv_owd, ↓Wv_owo, ↓Wsem_ok, ↓setR_fz, ↓setR_fr, ↓Wrv_some, ↓Wpk_some, ↓Wunp_fz, ↓Wunps_lst, ↓WisL_lst, ↓Wapp_ow, ↓Wapp_io, ↓Wseti_ow, ↓Wseti_io, ↓Wretv_fz, ↓Wretv_ow, ↓Wpop_io, ↓Wpop_ow, ↓Wturn_none, ↓Wturn_some, ↓accO_some, ↓accO_none, ↓res_val, ↓res_pk, ↓slotD_0, ↓slotD_s, W1_some, WJ_some, W1_none, WJ_none, Wf_fz, Wf_lst, Wf_dct, Wf_obj, Wb_bl, Wi_int, Wif_true, Wif_false, Wv_fz, Wv_ow, Wv_owd, Wv_owo, Wsem_ok, setR_fz, setR_fr, Wrv_some, Wpk_some, Wunp_fz, Wunps_lst, WisL_lst, Wapp_ow, Wapp_io, Wseti_ow, Wseti_io, Wretv_fz, Wretv_ow, Wpop_io, Wpop_ow, accO_some, accO_none, Int.reduceLT, Int.reduceLE, Nat.reduceLT, Nat.reduceLeDiff, Int.reduceToNat, Int.reduceAdd, Int.reduceSub, Int.reduceMul, Int.reduceNeg, decide_true, decide_false, Bool.or_true, Bool.true_or, Bool.or_false, Bool.false_or, Bool.and_true, Bool.true_and, Bool.and_false, Bool.false_and, Bool.not_true, Bool.not_false, and_true, true_and, Option.map_some, Option.map_none, Option.bind_some, Option.bind_none, List.set_cons_zero, List.set_cons_succ, k1_len_str, k1_len_tup, k1_len_lst, k1_len_frl, k1_abs, k1_neg, k1_int, k1_intb, k1_tuple_lst, k1_tuple_tup, k1_list_lst, k1_list_tup, k1_rev, k1_isN, k1_notN, k2_add, k2_add_str, k2_add_lst, k2_sub, k1_isT, k1_notT, k2_mul, k2_muls, k2_fdiv, k2_mod, k2_pow6, k2_pow18, k2_pow12, k2_lt, k2_le, k2_gt, k2_ge, k2_eq, k2_ne, k2_in, k2_notin, k2_idx, idx_0, idx_1, idx_2, idx_3, idt_0, idt_1, idt_2, idt_3, k2_max, slc_str, slc_lst, slc_frl, seq_lst, seq_tup, seq_str, turnE_nx, turnE_ct, turnE_rt, turnE_bk, wipeD, backW, freeT_nil, freeT_cons, freeT1_none, freeT1_fz, freeT1_fzs, lockI, lockD_n, lockD_s, openD_n, openD_s, bindT_1, bindT_2, bindM, size_le, List.foldl_cons, List.foldl_nil, List.all_cons, List.all_nil, List.getElem?_cons_zero, List.getElem?_cons_succ, Option.join_some, Option.join_none, List.zip_cons_cons, List.zip_nil_left, List.length_cons, List.length_nil, List.length_append, Nat.reduceAdd, Nat.reduceEqDiff, Bool.false_eq_true, if_true, if_false, ↓reduceIte, ite_true, ite_false, ki_int_int, ki_int_str, ki_int_bool, ki_int_list, ki_int_tuple, ki_int_dict, ki_bl_int, ki_bl_str, ki_bl_bool, ki_bl_list, ki_bl_tuple, ki_bl_dict, ki_str_int, ki_str_str, ki_str_bool, ki_str_list, ki_str_tuple, ki_str_dict, ki_lst_int, ki_lst_str, ki_lst_bool, ki_lst_list, ki_lst_tuple, ki_lst_dict, ki_frl_int, ki_frl_str, ki_frl_bool, ki_frl_list, ki_frl_tuple, ki_frl_dict, ki_tup_int, ki_tup_str, ki_tup_bool, ki_tup_list, ki_tup_tuple, ki_tup_dict, ki_dct_int, ki_dct_str, ki_dct_bool, ki_dct_list, ki_dct_tuple, ki_dct_dict, ki_non_int, ki_non_str, ki_non_bool, ki_non_list, ki_non_tuple, ki_non_dict, kis_nil, kis_t, kis_f, Z.argsOf, Z.argOf, Z.backTo, Z.outsOf, List.any_nil, List.any_cons, e_dr]; clear e_dr
    obtain ⟨c, hc, e1⟩ := str_menu (m := SML ++ DIG) (v := u) (by decide) (by simp [SML, DIG]; omega)
    simp only [SML, DIG, List.cons_append, List.nil_append] at e1
    have hz : s.length + 1 + 1 ≤ sizeL := sz (by omega)
    simp only [↓We_var, ↓We_int, ↓We_str, ↓We_bl, ↓We_non, ↓We_gl, ↓We_dspc, ↓We_fs, ↓We_tup, ↓We_lst, ↓We_op1, ↓We_op2, ↓We_sm1, ↓We_slc, ↓We_isi, ↓We_and, ↓We_or, ↓We_one, ↓We_not, ↓We_ife, ↓We_chn, ↓We_pop, ↓We_call, ↓We_callk, ↓We_comp, ↓Wr_var, ↓Wr_int, ↓Wr_str, ↓Wr_bl, ↓Wr_non, ↓Wr_gl, ↓Wr_dspc, ↓Wr_fs, ↓Wr_tup, ↓Wr_lst, ↓Wr_op1, ↓Wr_op2, ↓Wr_sm1, ↓Wr_slc, ↓Wr_isi, ↓Wr_and, ↓Wr_or, ↓Wr_not, ↓Wr_ife, ↓Wr_chn, ↓Wr_pop, ↓Wr_call, ↓Wr_callk, ↓Wr_comp, ↓Ws_set, ↓Ws_unp, ↓Ws_unps, ↓Ws_app, ↓Ws_seti, ↓Ws_setf, ↓Ws_expr, ↓Ws_ife, ↓Ws_for, ↓Ws_while, ↓Ws_ret, ↓Ws_retv, ↓Ws_retn, ↓Ws_brk, ↓Ws_cont, ↓Ws_pass, ↓Wss_cons, ↓Wss_nil, ↓Wes_nil, ↓Wes_cons, ↓Wo_none, ↓Wo_some, ↓Was_nil, ↓Was_ev, ↓Was_pk, ↓Wcall_def, catA_nil, catA_cons, ↓Wsrc_seq, ↓Wsrc_rng1, ↓Wsrc_rng2, ↓Wsrc_zip, ↓seq_nx, ↓seq_rt, ↓seq_bk, ↓seq_ct, ↓seq_ex, ↓W1_some, ↓WJ_some, ↓W1_none, ↓WJ_none, ↓Wf_fz, ↓Wf_lst, ↓Wf_dct, ↓Wf_obj, ↓Wb_bl, ↓Wi_int, ↓Wif_true, ↓Wif_false, ↓Wv_fz, ↓Wv_ow, ↓Wv_owd, ↓Wv_owo, ↓Wsem_ok, ↓setR_fz, ↓setR_fr, ↓Wrv_some, ↓Wpk_some, ↓Wunp_fz, ↓Wunps_lst, ↓WisL_lst, ↓Wapp_ow, ↓Wapp_io, ↓Wseti_ow, ↓Wseti_io, ↓Wretv_fz, ↓Wretv_ow, ↓Wpop_io, ↓Wpop_ow, ↓Wturn_none, ↓Wturn_some, ↓accO_some, ↓accO_none, ↓res_val, ↓res_pk, ↓slotD_0, ↓slotD_s, W1_some, WJ_some, W1_none, WJ_none, Wf_fz, Wf_lst, Wf_dct, Wf_obj, Wb_bl, Wi_int, Wif_true, Wif_false, Wv_fz, Wv_ow, Wv_owd, Wv_owo, Wsem_ok, setR_fz, setR_fr, Wrv_some, Wpk_some, Wunp_fz, Wunps_lst, WisL_lst, Wapp_ow, Wapp_io, Wseti_ow, Wseti_io, Wretv_fz, Wretv_ow, Wpop_io, Wpop_ow, accO_some, accO_none, Int.reduceLT, Int.reduceLE, Nat.reduceLT, Nat.reduceLeDiff, Int.reduceToNat, Int.reduceAdd, Int.reduceSub, Int.reduceMul, Int.reduceNeg, decide_true, decide_false, Bool.or_true, Bool.true_or, Bool.or_false, Bool.false_or, Bool.and_true, Bool.true_and, Bool.and_false, Bool.false_and, Bool.not_true, Bool.not_false, and_true, true_and, Option.map_some, Option.map_none, Option.bind_some, Option.bind_none, List.set_cons_zero, List.set_cons_succ, k1_len_str, k1_len_tup, k1_len_lst, k1_len_frl, k1_abs, k1_neg, k1_int, k1_intb, k1_tuple_lst, k1_tuple_tup, k1_list_lst, k1_list_tup, k1_rev, k1_isN, k1_notN, k2_add, k2_add_str, k2_add_lst, k2_sub, k1_isT, k1_notT, k2_mul, k2_muls, k2_fdiv, k2_mod, k2_pow6, k2_pow18, k2_pow12, k2_lt, k2_le, k2_gt, k2_ge, k2_eq, k2_ne, k2_in, k2_notin, k2_idx, idx_0, idx_1, idx_2, idx_3, idt_0, idt_1, idt_2, idt_3, k2_max, slc_str, slc_lst, slc_frl, seq_lst, seq_tup, seq_str, turnE_nx, turnE_ct, turnE_rt, turnE_bk, wipeD, backW, freeT_nil, freeT_cons, freeT1_none, freeT1_fz, freeT1_fzs, lockI, lockD_n, lockD_s, openD_n, openD_s, bindT_1, bindT_2, bindM, size_le, List.foldl_cons, List.foldl_nil, List.all_cons, List.all_nil, List.getElem?_cons_zero, List.getElem?_cons_succ, Option.join_some, Option.join_none, List.zip_cons_cons, List.zip_nil_left, List.length_cons, List.length_nil, List.length_append, Nat.reduceAdd, Nat.reduceEqDiff, Bool.false_eq_true, if_true, if_false, ↓reduceIte, ite_true, ite_false, ki_int_int, ki_int_str, ki_int_bool, ki_int_list, ki_int_tuple, ki_int_dict, ki_bl_int, ki_bl_str, ki_bl_bool, ki_bl_list, ki_bl_tuple, ki_bl_dict, ki_str_int, ki_str_str, ki_str_bool, ki_str_list, ki_str_tuple, ki_str_dict, ki_lst_int, ki_lst_str, ki_lst_bool, ki_lst_list, ki_lst_tuple, ki_lst_dict, ki_frl_int, ki_frl_str, ki_frl_bool, ki_frl_list, ki_frl_tuple, ki_frl_dict, ki_tup_int, ki_tup_str, ki_tup_bool, ki_tup_list, ki_tup_tuple, ki_tup_dict, ki_dct_int, ki_dct_str, ki_dct_bool, ki_dct_list, ki_dct_tuple, ki_dct_dict, ki_non_int, ki_non_str, ki_non_bool, ki_non_list, ki_non_tuple, ki_non_dict, kis_nil, kis_t, kis_f, Z.argsOf, Z.argOf, Z.backTo, Z.outsOf, List.any_nil, List.any_cons, e1, hz]
    refine ⟨some _, fs, s ++ [c], hf, fun d hd => ?_, by simp [hl], rfl⟩
    rcases List.mem_append.mp hd with h | h
    · exact hs d h
    · rw [List.mem_singleton.mp h]; exact hc
  rintro δ ⟨a, fs, s, hf, hs, hl, rfl⟩
  have sd : ∀ c ∈ SML ++ DIG, c < 128 ∧ c ≠ 64 := by decide
  have hsm : ∀ c ∈ SML, c ∈ SML ++ DIG := fun c hc => List.mem_append_left _ hc
  have hall : ∀ c ∈ c0 :: s, c ∈ SML ++ DIG := fun c hc => (List.mem_cons.mp hc).elim (fun h => h ▸ hsm _ hc0) (hs c)
  have hok : Ok (c0 :: s) := ⟨fun c hc => Nat.lt_trans (sd c (hall c hc)).1 (by decide), by simp; omega⟩
  have rest : ∀ (t : List Nat) (a : Option D), Ok t → t.length ≤ 12 → nameB (.str t) = true → Wss T_law_word_0_3 [some (.io, flw fs), some (.fz, .str t), fzs a] En := by
    intro t a ht hl hn
    simp only [↓We_var, ↓We_int, ↓We_str, ↓We_bl, ↓We_non, ↓We_gl, ↓We_dspc, ↓We_fs, ↓We_tup, ↓We_lst, ↓We_op1, ↓We_op2, ↓We_sm1, ↓We_slc, ↓We_isi, ↓We_and, ↓We_or, ↓We_one, ↓We_not, ↓We_ife, ↓We_chn, ↓We_pop, ↓We_call, ↓We_callk, ↓We_comp, ↓Wr_var, ↓Wr_int, ↓Wr_str, ↓Wr_bl, ↓Wr_non, ↓Wr_gl, ↓Wr_dspc, ↓Wr_fs, ↓Wr_tup, ↓Wr_lst, ↓Wr_op1, ↓Wr_op2, ↓Wr_sm1, ↓Wr_slc, ↓Wr_isi, ↓Wr_and, ↓Wr_or, ↓Wr_not, ↓Wr_ife, ↓Wr_chn, ↓Wr_pop, ↓Wr_call, ↓Wr_callk, ↓Wr_comp, ↓Ws_set, ↓Ws_unp, ↓Ws_unps, ↓Ws_app, ↓Ws_seti, ↓Ws_setf, ↓Ws_expr, ↓Ws_ife, ↓Ws_for, ↓Ws_while, ↓Ws_ret, ↓Ws_retv, ↓Ws_retn, ↓Ws_brk, ↓Ws_cont, ↓Ws_pass, ↓Wss_cons, ↓Wss_nil, ↓Wes_nil, ↓Wes_cons, ↓Wo_none, ↓Wo_some, ↓Was_nil, ↓Was_ev, ↓Was_pk, ↓Wcall_def, catA_nil, catA_cons, ↓Wsrc_seq, ↓Wsrc_rng1, ↓Wsrc_rng2, ↓Wsrc_zip, ↓seq_nx, ↓seq_rt, ↓seq_bk, ↓seq_ct, ↓seq_ex, ↓W1_some, ↓WJ_some, ↓W1_none, ↓WJ_none, ↓Wf_fz, ↓Wf_lst, ↓Wf_dct, ↓Wf_obj, ↓Wb_bl, ↓Wi_int, ↓Wif_true, ↓Wif_false, ↓Wv_fz, ↓Wv_ow, ↓Wv_owd, ↓Wv_owo, ↓Wsem_ok, ↓setR_fz, ↓setR_fr, ↓Wrv_some, ↓Wpk_some, ↓Wunp_fz, ↓Wunps_lst, ↓WisL_lst, ↓Wapp_ow, ↓Wapp_io, ↓Wseti_ow, ↓Wseti_io, ↓Wretv_fz, ↓Wretv_ow, ↓Wpop_io, ↓Wpop_ow, ↓Wturn_none, ↓Wturn_some, ↓accO_some, ↓accO_none, ↓res_val, ↓res_pk, ↓slotD_0, ↓slotD_s, W1_some, WJ_some, W1_none, WJ_none, Wf_fz, Wf_lst, Wf_dct, Wf_obj, Wb_bl, Wi_int, Wif_true, Wif_false, Wv_fz, Wv_ow, Wv_owd, Wv_owo, Wsem_ok, setR_fz, setR_fr, Wrv_some, Wpk_some, Wunp_fz, Wunps_lst, WisL_lst, Wapp_ow, Wapp_io, Wseti_ow, Wseti_io, Wretv_fz, Wretv_ow, Wpop_io, Wpop_ow, accO_some, accO_none, Int.reduceLT, Int.reduceLE, Nat.reduceLT, Nat.reduceLeDiff, Int.reduceToNat, Int.reduceAdd, Int.reduceSub, Int.reduceMul, Int.reduceNeg, decide_true, decide_false, Bool.or_true, Bool.true_or, Bool.or_false, Bool.false_or, Bool.and_true, Bool.true_and, Bool.and_false, Bool.false_and, Bool.not_true, Bool.not_false, and_true, true_and, Option.map_some, Option.map_none, Option.bind_some, Option.bind_none, List.set_cons_zero, List.set_cons_succ, k1_len_str, k1_len_tup, k1_len_lst, k1_len_frl, k1_abs, k1_neg, k1_int, k1_intb, k1_tuple_lst, k1_tuple_tup, k1_list_lst, k1_list_tup, k1_rev, k1_isN, k1_notN, k2_add, k2_add_str, k2_add_lst, k2_sub, k1_isT, k1_notT, k2_mul, k2_muls, k2_fdiv, k2_mod, k2_pow6, k2_pow18, k2_pow12, k2_lt, k2_le, k2_gt, k2_ge, k2_eq, k2_ne, k2_in, k2_notin, k2_idx, idx_0, idx_1, idx_2, idx_3, idt_0, idt_1, idt_2, idt_3, k2_max, slc_str, slc_lst, slc_frl, seq_lst, seq_tup, seq_str, turnE_nx, turnE_ct, turnE_rt, turnE_bk, wipeD, backW, freeT_nil, freeT_cons, freeT1_none, freeT1_fz, freeT1_fzs, lockI, lockD_n, lockD_s, openD_n, openD_s, bindT_1, bindT_2, bindM, size_le, List.foldl_cons, List.foldl_nil, List.all_cons, List.all_nil, List.getElem?_cons_zero, List.getElem?_cons_succ, Option.join_some, Option.join_none, List.zip_cons_cons, List.zip_nil_left, List.length_cons, List.length_nil, List.length_append, Nat.reduceAdd, Nat.reduceEqDiff, Bool.false_eq_true, if_true, if_false, ↓reduceIte, ite_true, ite_false, ki_int_int, ki_int_str, ki_int_bool, ki_int_list, ki_int_tuple, ki_int_dict, ki_bl_int, ki_bl_str, ki_bl_bool, ki_bl_list, ki_bl_tuple, ki_bl_dict, ki_str_int, ki_str_str, ki_str_bool, ki_str_list, ki_str_tuple, ki_str_dict, ki_lst_int, ki_lst_str, ki_lst_bool, ki_lst_list, ki_lst_tuple, ki_lst_dict, ki_frl_int, ki_frl_str, ki_frl_bool, ki_frl_list, ki_frl_tuple, ki_frl_dict, ki_tup_int, ki_tup_str, ki_tup_bool, ki_tup_list, ki_tup_tuple, ki_tup_dict, ki_dct_int, ki_dct_str, ki_dct_bool, ki_dct_list, ki_dct_tuple, ki_dct_dict, ki_non_int, ki_non_str, ki_non_bool, ki_non_list, ki_non_tuple, ki_non_dict, kis_nil, kis_t, kis_f, Z.argsOf, Z.argOf, Z.backTo, Z.outsOf, List.any_nil, List.any_cons, T_law_word_0_3]
    obtain ⟨w, fs, w_lt, hf, e_dr⟩ := draw_ok hf (n := 5) (by first | decide | omega); simp only [↓We_var, ↓We_int, ↓We_str, ↓We_bl, ↓We_non, ↓We_gl, ↓We_dspc, ↓We_fs, ↓We_tup, ↓We_lst, ↓We_op1, ↓We_op2, ↓We_sm1, ↓We_slc, ↓We_isi, ↓We_and, ↓We_or, ↓We_one, ↓We_not, ↓We_ife, ↓We_chn, ↓We_pop, ↓We_call, ↓We_callk, ↓We_comp, ↓Wr_var, ↓Wr_int, ↓Wr_str, ↓Wr_bl, ↓Wr_non, ↓Wr_gl, ↓Wr_dspc, ↓Wr_fs, ↓Wr_tup, ↓Wr_lst, ↓Wr_op1, ↓Wr_op2, ↓Wr_sm1, ↓Wr_slc, ↓Wr_isi, ↓Wr_and, ↓Wr_or, ↓Wr_not, ↓Wr_ife, ↓Wr_chn, ↓Wr_pop, ↓Wr_call, ↓Wr_callk, ↓Wr_comp, ↓Ws_set, ↓Ws_unp, ↓Ws_unps, ↓Ws_app, ↓Ws_seti, ↓Ws_setf, ↓Ws_expr, ↓Ws_ife, ↓Ws_for, ↓Ws_while, ↓Ws_ret, ↓Ws_retv, ↓Ws_retn, ↓Ws_brk, ↓Ws_cont, ↓Ws_pass, ↓Wss_cons, ↓Wss_nil, ↓Wes_nil, ↓Wes_cons, ↓Wo_none, ↓Wo_some, ↓Was_nil, ↓Was_ev, ↓Was_pk, ↓Wcall_def, catA_nil, catA_cons, ↓Wsrc_seq, ↓Wsrc_rng1, ↓Wsrc_rng2, ↓Wsrc_zip, ↓seq_nx, ↓seq_rt, ↓seq_bk, ↓seq_ct, ↓seq_ex, ↓W1_some, ↓WJ_some, ↓W1_none, ↓WJ_none, ↓Wf_fz, ↓Wf_lst, ↓Wf_dct, ↓Wf_obj, ↓Wb_bl, ↓Wi_int, ↓Wif_true, ↓Wif_false, ↓Wv_fz, ↓Wv_ow, ↓Wv_owd, ↓Wv_owo, ↓Wsem_ok, ↓setR_fz, ↓setR_fr, ↓Wrv_some, ↓Wpk_some, ↓Wunp_fz, ↓Wunps_lst, ↓WisL_lst, ↓Wapp_ow, ↓Wapp_io, ↓Wseti_ow, ↓Wseti_io, ↓Wretv_fz, ↓Wretv_ow, ↓Wpop_io, ↓Wpop_ow, ↓Wturn_none, ↓Wturn_some, ↓accO_some, ↓accO_none, ↓res_val, ↓res_pk, ↓slotD_0, ↓slotD_s, W1_some, WJ_some, W1_none, WJ_none, Wf_fz, Wf_lst, Wf_dct, Wf_obj, Wb_bl, Wi_int, Wif_true, Wif_false, Wv_fz, Wv_ow, Wv_owd, Wv_owo, Wsem_ok, setR_fz, setR_fr, Wrv_some, Wpk_some, Wunp_fz, Wunps_lst, WisL_lst, Wapp_ow, Wapp_io, Wseti_ow, Wseti_io, Wretv_fz, Wretv_ow, Wpop_io, Wpop_ow, accO_some, accO_none, Int.reduceLT, Int.reduceLE, Nat.reduceLT, Nat.reduceLeDiff, Int.reduceToNat, Int.reduceAdd, Int.reduceSub, Int.reduceMul, Int.reduceNeg, decide_true, decide_false, Bool.or_true, Bool.true_or, Bool.or_false, Bool.false_or, Bool.and_true, Bool.true_and, Bool.and_false, Bool.false_and, Bool.not_true, Bool.not_false, and_true, true_and, Option.map_some, Option.map_none, Option.bind_some, Option.bind_none, List.set_cons_zero, List.set_cons_succ, k1_len_str, k1_len_tup, k1_len_lst, k1_len_frl, k1_abs, k1_neg, k1_int, k1_intb, k1_tuple_lst, k1_tuple_tup, k1_list_lst, k1_list_tup, k1_rev, k1_isN, k1_notN, k2_add, k2_add_str, k2_add_lst, k2_sub, k1_isT, k1_notT, k2_mul, k2_muls, k2_fdiv, k2_mod, k2_pow6, k2_pow18, k2_pow12, k2_lt, k2_le, k2_gt, k2_ge, k2_eq, k2_ne, k2_in, k2_notin, k2_idx, idx_0, idx_1, idx_2, idx_3, idt_0, idt_1, idt_2, idt_3, k2_max, slc_str, slc_lst, slc_frl, seq_lst, seq_tup, seq_str, turnE_nx, turnE_ct, turnE_rt, turnE_bk, wipeD, backW, freeT_nil, freeT_cons, freeT1_none, freeT1_fz, freeT1_fzs, lockI, lockD_n, lockD_s, openD_n, openD_s, bindT_1, bindT_2, bindM, size_le, List.foldl_cons, List.foldl_nil, List.all_cons, List.all_nil, List.getElem?_cons_zero, List.getElem?_cons_succ, Option.join_some, Option.join_none, List.zip_cons_cons, List.zip_nil_left, List.length_cons, List.length_nil, List.length_append, Nat.reduceAdd, Nat.reduceEqDiff, Bool.false_eq_true, if_true, if_false, ↓reduceIte, ite_true, ite_false, ki_int_int, ki_int_str, ki_int_bool, ki_int_list, ki_int_tuple, ki_int_dict, ki_bl_int, ki_bl_str, ki_bl_bool, ki_bl_list, ki_bl_tuple, ki_bl_dict, ki_str_int, ki_str_str, ki_str_bool, ki_str_list, ki_str_tuple, ki_str_dict, ki_lst_int, ki_lst_str, ki_lst_bool, ki_lst_list, ki_lst_tuple, ki_lst_dict, ki_frl_int, ki_frl_str, ki_frl_bool, ki_frl_list, ki_frl_tuple, ki_frl_dict, ki_tup_int, ki_tup_str, ki_tup_bool, ki_tup_list, ki_tup_tuple, ki_tup_dict, ki_dct_int, ki_dct_str, ki_dct_bool, ki_dct_list, ki_dct_tuple, ki_dct_dict, ki_non_int, ki_non_str, ki_non_bool, ki_non_list, ki_non_tuple, ki_non_dict, kis_nil, kis_t, kis_f, Z.argsOf, Z.argOf, Z.backTo, Z.outsOf, List.any_nil, List.any_cons, e_dr]; clear e_dr
    refine ⟨range62_lit (by omega), ?_⟩
    rw [Int.toNat_natCast]
    refine Wfor.rng (fun i δ => ∃ (a : Option D) (fs : List Int) (t : List Nat), Small fs ∧ (∀ c ∈ t, c < 1114112) ∧ t.length ≤ 12 + 13 * i ∧ nameB (.str t) = true ∧ δ = [some (.io, flw fs), some (.fz, .str t), fzs a]) ⟨a, fs, t, hf, ht.1, by omega, hn, rfl⟩ ?_ ?_
    · rintro i δ hi ⟨a, fs, t, hf, ht, hl, hn, rfl⟩
      have hz : t.length + 1 ≤ sizeL := sz (by omega)
      simp only [↓We_var, ↓We_int, ↓We_str, ↓We_bl, ↓We_non, ↓We_gl, ↓We_dspc, ↓We_fs, ↓We_tup, ↓We_lst, ↓We_op1, ↓We_op2, ↓We_sm1, ↓We_slc, ↓We_isi, ↓We_and, ↓We_or, ↓We_one, ↓We_not, ↓We_ife, ↓We_chn, ↓We_pop, ↓We_call, ↓We_callk, ↓We_comp, ↓Wr_var, ↓Wr_int, ↓Wr_str, ↓Wr_bl, ↓Wr_non, ↓Wr_gl, ↓Wr_dspc, ↓Wr_fs, ↓Wr_tup, ↓Wr_lst, ↓Wr_op1, ↓Wr_op2, ↓Wr_sm1, ↓Wr_slc, ↓Wr_isi, ↓Wr_and, ↓Wr_or, ↓Wr_not, ↓Wr_ife, ↓Wr_chn, ↓Wr_pop, ↓Wr_call, ↓Wr_callk, ↓Wr_comp, ↓Ws_set, ↓Ws_unp, ↓Ws_unps, ↓Ws_app, ↓Ws_seti, ↓Ws_setf, ↓Ws_expr, ↓Ws_ife, ↓Ws_for, ↓Ws_while, ↓Ws_ret, ↓Ws_retv, ↓Ws_retn, ↓Ws_brk, ↓Ws_cont, ↓Ws_pass, ↓Wss_cons, ↓Wss_nil, ↓Wes_nil, ↓Wes_cons, ↓Wo_none, ↓Wo_some, ↓Was_nil, ↓Was_ev, ↓Was_pk, ↓Wcall_def, catA_nil, catA_cons, ↓Wsrc_seq, ↓Wsrc_rng1, ↓Wsrc_rng2, ↓Wsrc_zip, ↓seq_nx, ↓seq_rt, ↓seq_bk, ↓seq_ct, ↓seq_ex, ↓W1_some, ↓WJ_some, ↓W1_none, ↓WJ_none, ↓Wf_fz, ↓Wf_lst, ↓Wf_dct, ↓Wf_obj, ↓Wb_bl, ↓Wi_int, ↓Wif_true, ↓Wif_false, ↓Wv_fz, ↓Wv_ow, ↓Wv_owd, ↓Wv_owo, ↓Wsem_ok, ↓setR_fz, ↓setR_fr, ↓Wrv_some, ↓Wpk_some, ↓Wunp_fz, ↓Wunps_lst, ↓WisL_lst, ↓Wapp_ow, ↓Wapp_io, ↓Wseti_ow, ↓Wseti_io, ↓Wretv_fz, ↓Wretv_ow, ↓Wpop_io, ↓Wpop_ow, ↓Wturn_none, ↓Wturn_some, ↓accO_some, ↓accO_none, ↓res_val, ↓res_pk, ↓slotD_0, ↓slotD_s, W1_some, WJ_some, W1_none, WJ_none, Wf_fz, Wf_lst, Wf_dct, Wf_obj, Wb_bl, Wi_int, Wif_true, Wif_false, Wv_fz, Wv_ow, Wv_owd, Wv_owo, Wsem_ok, setR_fz, setR_fr, Wrv_some, Wpk_some, Wunp_fz, Wunps_lst, WisL_lst, Wapp_ow, Wapp_io, Wseti_ow, Wseti_io, Wretv_fz, Wretv_ow, Wpop_io, Wpop_ow, accO_some, accO_none, Int.reduceLT, Int.reduceLE, Nat.reduceLT, Nat.reduceLeDiff, Int.reduceToNat, Int.reduceAdd, Int.reduceSub, Int.reduceMul, Int.reduceNeg, decide_true, decide_false, Bool.or_true, Bool.true_or, Bool.or_false, Bool.false_or, Bool.and_true, Bool.true_and, Bool.and_false, Bool.false_and, Bool.not_true, Bool.not_false, and_true, true_and, Option.map_some, Option.map_none, Option.bind_some, Option.bind_none, List.set_cons_zero, List.set_cons_succ, k1_len_str, k1_len_tup, k1_len_lst, k1_len_frl, k1_abs, k1_neg, k1_int, k1_intb, k1_tuple_lst, k1_tuple_tup, k1_list_lst, k1_list_tup, k1_rev, k1_isN, k1_notN, k2_add, k2_add_str, k2_add_lst, k2_sub, k1_isT, k1_notT, k2_mul, k2_muls, k2_fdiv, k2_mod, k2_pow6, k2_pow18, k2_pow12, k2_lt, k2_le, k2_gt, k2_ge, k2_eq, k2_ne, k2_in, k2_notin, k2_idx, idx_0, idx_1, idx_2, idx_3, idt_0, idt_1, idt_2, idt_3, k2_max, slc_str, slc_lst, slc_frl, seq_lst, seq_tup, seq_str, turnE_nx, turnE_ct, turnE_rt, turnE_bk, wipeD, backW, freeT_nil, freeT_cons, freeT1_none, freeT1_fz, freeT1_fzs, lockI, lockD_n, lockD_s, openD_n, openD_s, bindT_1, bindT_2, bindM, size_le, List.foldl_cons, List.foldl_nil, List.all_cons, List.all_nil, List.getElem?_cons_zero, List.getElem?_cons_succ, Option.join_some, Option.join_none, List.zip_cons_cons, List.zip_nil_left, List.length_cons, List.length_nil, List.length_append, Nat.reduceAdd, Nat.reduceEqDiff, Bool.false_eq_true, if_true, if_false, ↓reduceIte, ite_true, ite_false, ki_int_int, ki_int_str, ki_int_bool, ki_int_list, ki_int_tuple, ki_int_dict, ki_bl_int, ki_bl_str, ki_bl_bool, ki_bl_list, ki_bl_tuple, ki_bl_dict, ki_str_int, ki_str_str, ki_str_bool, ki_str_list, ki_str_tuple, ki_str_dict, ki_lst_int, ki_lst_str, ki_lst_bool, ki_lst_list, ki_lst_tuple, ki_lst_dict, ki_frl_int, ki_frl_str, ki_frl_bool, ki_frl_list, ki_frl_tuple, ki_frl_dict, ki_tup_int, ki_tup_str, ki_tup_bool, ki_tup_list, ki_tup_tuple, ki_tup_dict, ki_dct_int, ki_dct_str, ki_dct_bool, ki_dct_list, ki_dct_tuple, ki_dct_dict, ki_non_int, ki_non_str, ki_non_bool, ki_non_list, ki_non_tuple, ki_non_dict, kis_nil, kis_t, kis_f, Z.argsOf, Z.argOf, Z.backTo, Z.outsOf, List.any_nil, List.any_cons, T_law_word_3_0, hz]
      obtain ⟨u, fs, u_lt, hf, e_dr⟩ := draw_ok hf (n := 6) (by first | decide | omega); simp only [↓We_var, ↓We_int, ↓We_str, ↓We_bl, ↓We_non, ↓We_gl, ↓We_dspc, ↓We_fs, ↓We_tup, ↓We_lst, ↓We_op1, ↓We_op2, ↓We_sm1, ↓We_slc, ↓We_isi, ↓We_and, ↓We_or, ↓We_one, ↓We_not, ↓We_ife, ↓We_chn, ↓We_pop, ↓We_call, ↓We_callk, ↓We_comp, ↓Wr_var, ↓Wr_int, ↓Wr_str, ↓Wr_bl, ↓Wr_non, ↓Wr_gl, ↓Wr_dspc, ↓Wr_fs, ↓Wr_tup, ↓Wr_lst, ↓Wr_op1, ↓Wr_op2, ↓Wr_sm1, ↓Wr_slc, ↓Wr_isi, ↓Wr_and, ↓Wr_or, ↓Wr_not, ↓Wr_ife, ↓Wr_chn, ↓Wr_pop, ↓Wr_call, ↓Wr_callk, ↓Wr_comp, ↓Ws_set, ↓Ws_unp, ↓Ws_unps, ↓Ws_app, ↓Ws_seti, ↓Ws_setf, ↓Ws_expr, ↓Ws_ife, ↓Ws_for, ↓Ws_while, ↓Ws_ret, ↓Ws_retv, ↓Ws_retn, ↓Ws_brk, ↓Ws_cont, ↓Ws_pass, ↓Wss_cons, ↓Wss_nil, ↓Wes_nil, ↓Wes_cons, ↓Wo_none, ↓Wo_some, ↓Was_nil, ↓Was_ev, ↓Was_pk, ↓Wcall_def, catA_nil, catA_cons, ↓Wsrc_seq, ↓Wsrc_rng1, ↓Wsrc_rng2, ↓Wsrc_zip, ↓seq_nx, ↓seq_rt, ↓seq_bk, ↓seq_ct, ↓seq_ex, ↓W1_some, ↓WJ_some, ↓W1_none, ↓WJ_none, ↓Wf_fz, ↓Wf_lst, ↓Wf_dct, ↓Wf_obj, ↓Wb_bl, ↓Wi_int, ↓Wif_true, ↓Wif_false, ↓Wv_fz, ↓Wv_ow, ↓Wv_owd, ↓Wv_owo, ↓Wsem_ok, ↓setR_fz, ↓setR_fr, ↓Wrv_some, ↓Wpk_some, ↓Wunp_fz, ↓Wunps_lst, ↓WisL_lst, ↓Wapp_ow, ↓Wapp_io, ↓Wseti_ow, ↓Wseti_io, ↓Wretv_fz, ↓Wretv_ow, ↓Wpop_io, ↓Wpop_ow, ↓Wturn_none, ↓Wturn_some, ↓accO_some, ↓accO_none, ↓res_val, ↓res_pk, ↓slotD_0, ↓slotD_s, W1_some, WJ_some, W1_none, WJ_none, Wf_fz, Wf_lst, Wf_dct, Wf_obj, Wb_bl, Wi_int, Wif_true, Wif_false, Wv_fz, Wv_ow, Wv_owd, Wv_owo, Wsem_ok, setR_fz, setR_fr, Wrv_some, Wpk_some, Wunp_fz, Wunps_lst, WisL_lst, Wapp_ow, Wapp_io, Wseti_ow, Wseti_io, Wretv_fz, Wretv_ow, Wpop_io, Wpop_ow, accO_some, accO_none, Int.reduceLT, Int.reduceLE, Nat.reduceLT, Nat.reduceLeDiff, Int.reduceToNat, Int.reduceAdd, Int.reduceSub, Int.reduceMul, Int.reduceNeg, decide_true, decide_false, Bool.or_true, Bool.true_or, Bool.or_false, Bool.false_or, Bool.and_true, Bool.true_and, Bool.and_false, Bool.false_and, Bool.not_true, Bool.not_false, and_true, true_and, Option.map_some, Option.map_none, Option.bind_some, Option.bind_none, List.set_cons_zero, List.set_cons_succ, k1_len_str, k1_len_tup, k1_len_lst, k1_len_frl, k1_abs, k1_neg, k1_int, k1_intb, k1_tuple_lst, k1_tuple_tup, k1_list_lst, k1_list_tup, k1_rev, k1_isN, k1_notN, k2_add, k2_add_str, k2_add_lst, k2_sub, k1_isT, k1_notT, k2_mul, k2_muls, k2_fdiv, k2_mod, k2_pow6, k2_pow18, k2_pow12, k2_lt, k2_le, k2_gt, k2_ge, k2_eq, k2_ne, k2_in, k2_notin, k2_idx, idx_0, idx_1, idx_2, idx_3, idt_0, idt_1, idt_2, idt_3, k2_max, slc_str, slc_lst, slc_frl, seq_lst, seq_tup, seq_str, turnE_nx, turnE_ct, turnE_rt, turnE_bk, wipeD, backW, freeT_nil, freeT_cons, freeT1_none, freeT1_fz, freeT1_fzs, lockI, lockD_n, lockD_s, openD_n, openD_s, bindT_1, bindT_2, bindM, size_le, List.foldl_cons, List.foldl_nil, List.all_cons, List.all_nil, List.getElem?_cons_zero, List.getElem?_cons_succ, Option.join_some, Option.join_none, List.zip_cons_cons, List.zip_nil_left, List.length_cons, List.length_nil, List.length_append, Nat.reduceAdd, Nat.reduceEqDiff, Bool.false_eq_true, if_true, if_false, ↓reduceIte, ite_true, ite_false, ki_int_int, ki_int_str, ki_int_bool, ki_int_list, ki_int_tuple, ki_int_dict, ki_bl_int, ki_bl_str, ki_bl_bool, ki_bl_list, ki_bl_tuple, ki_bl_dict, ki_str_int, ki_str_str, ki_str_bool, ki_str_list, ki_str_tuple, ki_str_dict, ki_lst_int, ki_lst_str, ki_lst_bool, ki_lst_list, ki_lst_tuple, ki_lst_dict, ki_frl_int, ki_frl_str, ki_frl_bool, ki_frl_list, ki_frl_tuple, ki_frl_dict, ki_tup_int, ki_tup_str, ki_tup_bool, ki_tup_list, ki_tup_tuple, ki_tup_dict, ki_dct_int, ki_dct_str, ki_dct_bool, ki_dct_list, ki_dct_tuple, ki_dct_dict, ki_non_int, ki_non_str, ki_non_bool, ki_non_list, ki_non_tuple, ki_non_dict, kis_nil, kis_t, kis_f, Z.argsOf, Z.argOf, Z.backTo, Z.outsOf, List.any_nil, List.any_cons, e_dr]; clear e_dr
      obtain ⟨x, hx, e3⟩ := menuS (ts := [[], [], [98], [102], [98, 102], [102, 102, 98, 98]]) (v := u) (by simp; omega)
      simp only [List.map_cons, List.map_nil] at e3
      have lx : x.length ≤ 4 := (show ∀ t ∈ [[], [], [98], [102], [98, 102], [102, 102, 98, 98]], t.length ≤ 4 by decide) x hx
      have hz2 : t.length + 1 + x.length ≤ sizeL := sz (by omega)
      simp only [↓We_var, ↓We_int, ↓We_str, ↓We_bl, ↓We_non, ↓We_gl, ↓We_dspc, ↓We_fs, ↓We_tup, ↓We_lst, ↓We_op1, ↓We_op2, ↓We_sm1, ↓We_slc, ↓We_isi, ↓We_and, ↓We_or, ↓We_one, ↓We_not, ↓We_ife, ↓We_chn, ↓We_pop, ↓We_call, ↓We_callk, ↓We_comp, ↓Wr_var, ↓Wr_int, ↓Wr_str, ↓Wr_bl, ↓Wr_non, ↓Wr_gl, ↓Wr_dspc, ↓Wr_fs, ↓Wr_tup, ↓Wr_lst, ↓Wr_op1, ↓Wr_op2, ↓Wr_sm1, ↓Wr_slc, ↓Wr_isi, ↓Wr_and, ↓Wr_or, ↓Wr_not, ↓Wr_ife, ↓Wr_chn, ↓Wr_pop, ↓Wr_call, ↓Wr_callk, ↓Wr_comp, ↓Ws_set, ↓Ws_unp, ↓Ws_unps, ↓Ws_app, ↓Ws_seti, ↓Ws_setf, ↓Ws_expr, ↓Ws_ife, ↓Ws_for, ↓Ws_while, ↓Ws_ret, ↓Ws_retv, ↓Ws_retn, ↓Ws_brk, ↓Ws_cont, ↓Ws_pass, ↓Wss_cons, ↓Wss_nil, ↓Wes_nil, ↓Wes_cons, ↓Wo_none, ↓Wo_some, ↓Was_nil, ↓Was_ev, ↓Was_pk, ↓Wcall_def, catA_nil, catA_cons, ↓Wsrc_seq, ↓Wsrc_rng1, ↓Wsrc_rng2, ↓Wsrc_zip, ↓seq_nx, ↓seq_rt, ↓seq_bk, ↓seq_ct, ↓seq_ex, ↓W1_some, ↓WJ_some, ↓W1_none, ↓WJ_none, ↓Wf_fz, ↓Wf_lst, ↓Wf_dct, ↓Wf_obj, ↓Wb_bl, ↓Wi_int, ↓Wif_true, ↓Wif_false, ↓Wv_fz, ↓Wv_ow, ↓Wv_owd, ↓Wv_owo, ↓Wsem_ok, ↓setR_fz, ↓setR_fr, ↓Wrv_some, ↓Wpk_some, ↓Wunp_fz, ↓Wunps_lst, ↓WisL_lst, ↓Wapp_ow, ↓Wapp_io, ↓Wseti_ow, ↓Wseti_io, ↓Wretv_fz, ↓Wretv_ow, ↓Wpop_io, ↓Wpop_ow, ↓Wturn_none, ↓Wturn_some, ↓accO_some, ↓accO_none, ↓res_val, ↓res_pk, ↓slotD_0, ↓slotD_s, W1_some, WJ_some, W1_none, WJ_none, Wf_fz, Wf_lst, Wf_dct, Wf_obj, Wb_bl, Wi_int, Wif_true, Wif_false, Wv_fz, Wv_ow, Wv_owd, Wv_owo, Wsem_ok, setR_fz, setR_fr, Wrv_some, Wpk_some, Wunp_fz, Wunps_lst, WisL_lst, Wapp_ow, Wapp_io, Wseti_ow, Wseti_io, Wretv_fz, Wretv_ow, Wpop_io, Wpop_ow, accO_some, accO_none, Int.reduceLT, Int.reduceLE, Nat.reduceLT, Nat.reduceLeDiff, Int.reduceToNat, Int.reduceAdd, Int.reduceSub, Int.reduceMul, Int.reduceNeg, decide_true, decide_false, Bool.or_true, Bool.true_or, Bool.or_false, Bool.false_or, Bool.and_true, Bool.true_and, Bool.and_false, Bool.false_and, Bool.not_true, Bool.not_false, and_true, true_and, Option.map_some, Option.map_none, Option.bind_some, Option.bind_none, List.set_cons_zero, List.set_cons_succ, k1_len_str, k1_len_tup, k1_len_lst, k1_len_frl, k1_abs, k1_neg, k1_int, k1_intb, k1_tuple_lst, k1_tuple_tup, k1_list_lst, k1_list_tup, k1_rev, k1_isN, k1_notN, k2_add, k2_add_str, k2_add_lst, k2_sub, k1_isT, k1_notT, k2_mul, k2_muls, k2_fdiv, k2_mod, k2_pow6, k2_pow18, k2_pow12, k2_lt, k2_le, k2_gt, k2_ge, k2_eq, k2_ne, k2_in, k2_notin, k2_idx, idx_0, idx_1, idx_2, idx_3, idt_0, idt_1, idt_2, idt_3, k2_max, slc_str, slc_lst, slc_frl, seq_lst, seq_tup, seq_str, turnE_nx, turnE_ct, turnE_rt, turnE_bk, wipeD, backW, freeT_nil, freeT_cons, freeT1_none, freeT1_fz, freeT1_fzs, lockI, lockD_n, lockD_s, openD_n, openD_s, bindT_1, bindT_2, bindM, size_le, List.foldl_cons, List.foldl_nil, List.all_cons, List.all_nil, List.getElem?_cons_zero, List.getElem?_cons_succ, Option.join_some, Option.join_none, List.zip_cons_cons, List.zip_nil_left, List.length_cons, List.length_nil, List.length_append, Nat.reduceAdd, Nat.reduceEqDiff, Bool.false_eq_true, if_true, if_false, ↓reduceIte, ite_true, ite_false, ki_int_int, ki_int_str, ki_int_bool, ki_int_list, ki_int_tuple, ki_int_dict, ki_bl_int, ki_bl_str, ki_bl_bool, ki_bl_list, ki_bl_tuple, ki_bl_dict, ki_str_int, ki_str_str, ki_str_bool, ki_str_list, ki_str_tuple, ki_str_dict, ki_lst_int, ki_lst_str, ki_lst_bool, ki_lst_list, ki_lst_tuple, ki_lst_dict, ki_frl_int, ki_frl_str, ki_frl_bool, ki_frl_list, ki_frl_tuple, ki_frl_dict, ki_tup_int, ki_tup_str, ki_tup_bool, ki_tup_list, ki_tup_tuple, ki_tup_dict, ki_dct_int, ki_dct_str, ki_dct_bool, ki_dct_list, ki_dct_tuple, ki_dct_dict, ki_non_int, ki_non_str, ki_non_bool, ki_non_list, ki_non_tuple, ki_non_dict, kis_nil, kis_t, kis_f, Z.argsOf, Z.argOf, Z.backTo, Z.outsOf, List.any_nil, List.any_cons, e3, hz2, T_law_word_3_1]
      obtain ⟨u, fs, u_lt, hf, e_dr⟩ := draw_ok hf (n := 6) (by first | decide | omega); simp only [↓We_var, ↓We_int, ↓We_str, ↓We_bl, ↓We_non, ↓We_gl, ↓We_dspc, ↓We_fs, ↓We_tup, ↓We_lst, ↓We_op1, ↓We_op2, ↓We_sm1, ↓We_slc, ↓We_isi, ↓We_and, ↓We_or, ↓We_one, ↓We_not, ↓We_ife, ↓We_chn, ↓We_pop, ↓We_call, ↓We_callk, ↓We_comp, ↓Wr_var, ↓Wr_int, ↓Wr_str, ↓Wr_bl, ↓Wr_non, ↓Wr_gl, ↓Wr_dspc, ↓Wr_fs, ↓Wr_tup, ↓Wr_lst, ↓Wr_op1, ↓Wr_op2, ↓Wr_sm1, ↓Wr_slc, ↓Wr_isi, ↓Wr_and, ↓Wr_or, ↓Wr_not, ↓Wr_ife, ↓Wr_chn, ↓Wr_pop, ↓Wr_call, ↓Wr_callk, ↓Wr_comp, ↓Ws_set, ↓Ws_unp, ↓Ws_unps, ↓Ws_app, ↓Ws_seti, ↓Ws_setf, ↓Ws_expr, ↓Ws_ife, ↓Ws_for, ↓Ws_while, ↓Ws_ret, ↓Ws_retv, ↓Ws_retn, ↓Ws_brk, ↓Ws_cont, ↓Ws_pass, ↓Wss_cons, ↓Wss_nil, ↓Wes_nil, ↓Wes_cons, ↓Wo_none, ↓Wo_some, ↓Was_nil, ↓Was_ev, ↓Was_pk, ↓Wcall_def, catA_nil, catA_cons, ↓Wsrc_seq, ↓Wsrc_rng1, ↓Wsrc_rng2, ↓Wsrc_zip, ↓seq_nx, ↓seq_rt, ↓seq_bk, ↓seq_ct, ↓seq_ex, ↓W1_some, ↓WJ_some, ↓W1_none, ↓WJ_none, ↓Wf_fz, ↓Wf_lst, ↓Wf_dct, ↓Wf_obj, ↓Wb_bl, ↓Wi_int, ↓Wif_true, ↓Wif_false, ↓Wv_fz, ↓Wv_ow, ↓Wv_owd, ↓Wv_owo, ↓Wsem_ok, ↓setR_fz, ↓setR_fr, ↓Wrv_some, ↓Wpk_some, ↓Wunp_fz, ↓Wunps_lst, ↓WisL_lst, ↓Wapp_ow, ↓Wapp_io, ↓Wseti_ow, ↓Wseti_io, ↓Wretv_fz, ↓Wretv_ow, ↓Wpop_io, ↓Wpop_ow, ↓Wturn_none, ↓Wturn_some, ↓accO_some, ↓accO_none, ↓res_val, ↓res_pk, ↓slotD_0, ↓slotD_s, W1_some, WJ_some, W1_none, WJ_none, Wf_fz, Wf_lst, Wf_dct, Wf_obj, Wb_bl, Wi_int, Wif_true, Wif_false, Wv_fz, Wv_ow, Wv_owd, Wv_owo, Wsem_ok, setR_fz, setR_fr, Wrv_some, Wpk_some, Wunp_fz, Wunps_lst, WisL_lst, Wapp_ow, Wapp_io, Wseti_ow, Wseti_io, Wretv_fz, Wretv_ow, Wpop_io, Wpop_ow, accO_some, accO_none, Int.reduceLT, Int.reduceLE, Nat.reduceLT, Nat.reduceLeDiff, Int.reduceToNat, Int.reduceAdd, Int.reduceSub, Int.reduceMul, Int.reduceNeg, decide_true, decide_false, Bool.or_true, Bool.true_or, Bool.or_false, Bool.false_or, Bool.and_true, Bool.true_and, Bool.and_false, Bool.false_and, Bool.not_true, Bool.not_false, and_true, true_and, Option.map_some, Option.map_none, Option.bind_some, Option.bind_none, List.set_cons_zero, List.set_cons_succ, k1_len_str, k1_len_tup, k1_len_lst, k1_len_frl, k1_abs, k1_neg, k1_int, k1_intb, k1_tuple_lst, k1_tuple_tup, k1_list_lst, k1_list_tup, k1_rev, k1_isN, k1_notN, k2_add, k2_add_str, k2_add_lst, k2_sub, k1_isT, k1_notT, k2_mul, k2_muls, k2_fdiv, k2_mod, k2_pow6, k2_pow18, k2_pow12, k2_lt, k2_le, k2_gt, k2_ge, k2_eq, k2_ne, k2_in, k2_notin, k2_idx, idx_0, idx_1, idx_2, idx_3, idt_0, idt_1, idt_2, idt_3, k2_max, slc_str, slc_lst, slc_frl, seq_lst, seq_tup, seq_str, turnE_nx, turnE_ct, turnE_rt, turnE_bk, wipeD, backW, freeT_nil, freeT_cons, freeT1_none, freeT1_fz, freeT1_fzs, lockI, lockD_n, lockD_s, openD_n, openD_s, bindT_1, bindT_2, bindM, size_le, List.foldl_cons, List.foldl_nil, List.all_cons, List.all_nil, List.getElem?_cons_zero, List.getElem?_cons_succ, Option.join_some, Option.join_none, List.zip_cons_cons, List.zip_nil_left, List.length_cons, List.length_nil, List.length_append, Nat.reduceAdd, Nat.reduceEqDiff, Bool.false_eq_true, if_true, if_false, ↓reduceIte, ite_true, ite_false, ki_int_int, ki_int_str, ki_int_bool, ki_int_list, ki_int_tuple, ki_int_dict, ki_bl_int, ki_bl_str, ki_bl_bool, ki_bl_list, ki_bl_tuple, ki_bl_dict, ki_str_int, ki_str_str, ki_str_bool, ki_str_list, ki_str_tuple, ki_str_dict, ki_lst_int, ki_lst_str, ki_lst_bool, ki_lst_list, ki_lst_tuple, ki_lst_dict, ki_frl_int, ki_frl_str, ki_frl_bool, ki_frl_list, ki_frl_tuple, ki_frl_dict, ki_tup_int, ki_tup_str, ki_tup_bool, ki_tup_list, ki_tup_tuple, ki_tup_dict, ki_dct_int, ki_dct_str, ki_dct_bool, ki_dct_list, ki_dct_tuple, ki_dct_dict, ki_non_int, ki_non_str, ki_non_bool, ki_non_list, ki_non_tuple, ki_non_dict, kis_nil, kis_t, kis_f, Z.argsOf, Z.argOf, Z.backTo, Z.outsOf, List.any_nil, List.any_cons, e_dr]; clear e_dr
      obtain ⟨y, hy, e4⟩ := menuS (ts := [[], [], [63], [47, 48, 47, 55], [47, 57, 57, 57, 57, 47, 49, 48], []]) (v := u) (by simp; omega)
      simp only [List.map_cons, List.map_nil] at e4
      have ly : y.length ≤ 8 := (show ∀ t ∈ [[], [], [63], [47, 48, 47, 55], [47, 57, 57, 57, 57, 47, 49, 48], []], t.length ≤ 8 by decide) y hy
      have hxy : (∀ c ∈ x ++ y, c < 128 ∧ c ≠ 64) ∧ markB (x ++ y) = true := (show ∀ x ∈ [[], [], [98], [102], [98, 102], [102, 102, 98, 98]], ∀ y ∈ [[], [], [63], [47, 48, 47, 55], [47, 57, 57, 57, 57, 47, 49, 48], []], (∀ c ∈ x ++ y, c < 128 ∧ c ≠ 64) ∧ markB (x ++ y) = true by decide +kernel) x hx y hy
      have hz3 : t.length + 1 + x.length + y.length ≤ sizeL := sz (by omega)
      simp only [↓We_var, ↓We_int, ↓We_str, ↓We_bl, ↓We_non, ↓We_gl, ↓We_dspc, ↓We_fs, ↓We_tup, ↓We_lst, ↓We_op1, ↓We_op2, ↓We_sm1, ↓We_slc, ↓We_isi, ↓We_and, ↓We_or, ↓We_one, ↓We_not, ↓We_ife, ↓We_chn, ↓We_pop, ↓We_call, ↓We_callk, ↓We_comp, ↓Wr_var, ↓Wr_int, ↓Wr_str, ↓Wr_bl, ↓Wr_non, ↓Wr_gl, ↓Wr_dspc, ↓Wr_fs, ↓Wr_tup, ↓Wr_lst, ↓Wr_op1, ↓Wr_op2, ↓Wr_sm1, ↓Wr_slc, ↓Wr_isi, ↓Wr_and, ↓Wr_or, ↓Wr_not, ↓Wr_ife, ↓Wr_chn, ↓Wr_pop, ↓Wr_call, ↓Wr_callk, ↓Wr_comp, ↓Ws_set, ↓Ws_unp, ↓Ws_unps, ↓Ws_app, ↓Ws_seti, ↓Ws_setf, ↓Ws_expr, ↓Ws_ife, ↓Ws_for, ↓Ws_while, ↓Ws_ret, ↓Ws_retv, ↓Ws_retn, ↓Ws_brk, ↓Ws_cont, ↓Ws_pass, ↓Wss_cons, ↓Wss_nil, ↓Wes_nil, ↓Wes_cons, ↓Wo_none, ↓Wo_some, ↓Was_nil, ↓Was_ev, ↓Was_pk, ↓Wcall_def, catA_nil, catA_cons, ↓Wsrc_seq, ↓Wsrc_rng1, ↓Wsrc_rng2, ↓Wsrc_zip, ↓seq_nx, ↓seq_rt, ↓seq_bk, ↓seq_ct, ↓seq_ex, ↓W1_some, ↓WJ_some, ↓W1_none, ↓WJ_none, ↓Wf_fz, ↓Wf_lst, ↓Wf_dct, ↓Wf_obj, ↓Wb_bl, ↓Wi_int, ↓Wif_true, ↓Wif_false, ↓Wv_fz, ↓Wv_ow, ↓Wv_owd, ↓Wv_owo, ↓Wsem_ok, ↓setR_fz, ↓setR_fr, ↓Wrv_some, ↓Wpk_some, ↓Wunp_fz, ↓Wunps_lst, ↓WisL_lst, ↓Wapp_ow, ↓Wapp_io, ↓Wseti_ow, ↓Wseti_io, ↓Wretv_fz, ↓Wretv_ow, ↓Wpop_io, ↓Wpop_ow, ↓Wturn_none, ↓Wturn_some, ↓accO_some, ↓accO_none, ↓res_val, ↓res_pk, ↓slotD_0, ↓slotD_s, W1_some, WJ_some, W1_none, WJ_none, Wf_fz, Wf_lst, Wf_dct, Wf_obj, Wb_bl, Wi_int, Wif_true, Wif_false, Wv_fz, Wv_ow, Wv_owd, Wv_owo, Wsem_ok, setR_fz, setR_fr, Wrv_some, Wpk_some, Wunp_fz, Wunps_lst, WisL_lst, Wapp_ow, Wapp_io, Wseti_ow, Wseti_io, Wretv_fz, Wretv_ow, Wpop_io, Wpop_ow, accO_some, accO_none, Int.reduceLT, Int.reduceLE, Nat.reduceLT, Nat.reduceLeDiff, Int.reduceToNat, Int.reduceAdd, Int.reduceSub, Int.reduceMul, Int.reduceNeg, decide_true, decide_false, Bool.or_true, Bool.true_or, Bool.or_false, Bool.false_or, Bool.and_true, Bool.true_and, Bool.and_false, Bool.false_and, Bool.not_true, Bool.not_false, and_true, true_and, Option.map_some, Option.map_none, Option.bind_some, Option.bind_none, List.set_cons_zero, List.set_cons_succ, k1_len_str, k1_len_tup, k1_len_lst, k1_len_frl, k1_abs, k1_neg, k1_int, k1_intb, k1_tuple_lst, k1_tuple_tup, k1_list_lst, k1_list_tup, k1_rev, k1_isN, k1_notN, k2_add, k2_add_str, k2_add_lst, k2_sub, k1_isT, k1_notT, k2_mul, k2_muls, k2_fdiv, k2_mod, k2_pow6, k2_pow18, k2_pow12, k2_lt, k2_le, k2_gt, k2_ge, k2_eq, k2_ne, k2_in, k2_notin, k2_idx, idx_0, idx_1, idx_2, idx_3, idt_0, idt_1, idt_2, idt_3, k2_max, slc_str, slc_lst, slc_frl, seq_lst, seq_tup, seq_str, turnE_nx, turnE_ct, turnE_rt, turnE_bk, wipeD, backW, freeT_nil, freeT_cons, freeT1_none, freeT1_fz, freeT1_fzs, lockI, lockD_n, lockD_s, openD_n, openD_s, bindT_1, bindT_2, bindM, size_le, List.foldl_cons, List.foldl_nil, List.all_cons, List.all_nil, List.getElem?_cons_zero, List.getElem?_cons_succ, Option.join_some, Option.join_none, List.zip_cons_cons, List.zip_nil_left, List.length_cons, List.length_nil, List.length_append, Nat.reduceAdd, Nat.reduceEqDiff, Bool.false_eq_true, if_true, if_false, ↓reduceIte, ite_true, ite_false, ki_int_int, ki_int_str, ki_int_bool, ki_int_list, ki_int_tuple, ki_int_dict, ki_bl_int, ki_bl_str, ki_bl_bool, ki_bl_list, ki_bl_tuple, ki_bl_dict, ki_str_int, ki_str_str, ki_str_bool, ki_str_list, ki_str_tuple, ki_str_dict, ki_lst_int, ki_lst_str, ki_lst_bool, ki_lst_list, ki_lst_tuple, ki_lst_dict, ki_frl_int, ki_frl_str, ki_frl_bool, ki_frl_list, ki_frl_tuple, ki_frl_dict, ki_tup_int, ki_tup_str, ki_tup_bool, ki_tup_list, ki_tup_tuple, ki_tup_dict, ki_dct_int, ki_dct_str, ki_dct_bool, ki_dct_list, ki_dct_tuple, ki_dct_dict, ki_non_int, ki_non_str, ki_non_bool, ki_non_list, ki_non_tuple, ki_non_dict, kis_nil, kis_t, kis_f, Z.argsOf, Z.argOf, Z.backTo, Z.outsOf, List.any_nil, List.any_cons, e4, hz3]
      have hn2 := nameB_more (k := 0) hn (r := x ++ y) (fun h => (hxy.1 64 h).2 rfl) hxy.2
      refine ⟨some _, fs, t ++ [64] ++ x ++ y, hf, fun d hd => ?_, by simp; omega, ?_, rfl⟩
      · have hd : d ∈ t ∨ d = 64 ∨ d ∈ x ++ y := by
          simp only [List.mem_append, List.mem_singleton] at hd ⊢
          rcases hd with ((h | h) | h) | h <;> simp [h]
        rcases hd with h | h | h
        · exact ht d h
        · rw [h]; decide
        · exact Nat.lt_trans (hxy.1 d h).1 (by decide)
      · rw [← hn2]; simp
    rintro δ ⟨a, fs, t, hf, ht, hl, hn, rfl⟩
    simp only [↓We_var, ↓We_int, ↓We_str, ↓We_bl, ↓We_non, ↓We_gl, ↓We_dspc, ↓We_fs, ↓We_tup, ↓We_lst, ↓We_op1, ↓We_op2, ↓We_sm1, ↓We_slc, ↓We_isi, ↓We_and, ↓We_or, ↓We_one, ↓We_not, ↓We_ife, ↓We_chn, ↓We_pop, ↓We_call, ↓We_callk, ↓We_comp, ↓Wr_var, ↓Wr_int, ↓Wr_str, ↓Wr_bl, ↓Wr_non, ↓Wr_gl, ↓Wr_dspc, ↓Wr_fs, ↓Wr_tup, ↓Wr_lst, ↓Wr_op1, ↓Wr_op2, ↓Wr_sm1, ↓Wr_slc, ↓Wr_isi, ↓Wr_and, ↓Wr_or, ↓Wr_not, ↓Wr_ife, ↓Wr_chn, ↓Wr_pop, ↓Wr_call, ↓Wr_callk, ↓Wr_comp, ↓Ws_set, ↓Ws_unp, ↓Ws_unps, ↓Ws_app, ↓Ws_seti, ↓Ws_setf, ↓Ws_expr, ↓Ws_ife, ↓Ws_for, ↓Ws_while, ↓Ws_ret, ↓Ws_retv, ↓Ws_retn, ↓Ws_brk, ↓Ws_cont, ↓Ws_pass, ↓Wss_cons, ↓Wss_nil, ↓Wes_nil, ↓Wes_cons, ↓Wo_none, ↓Wo_some, ↓Was_nil, ↓Was_ev, ↓Was_pk, ↓Wcall_def, catA_nil, catA_cons, ↓Wsrc_seq, ↓Wsrc_rng1, ↓Wsrc_rng2, ↓Wsrc_zip, ↓seq_nx, ↓seq_rt, ↓seq_bk, ↓seq_ct, ↓seq_ex, ↓W1_some, ↓WJ_some, ↓W1_none, ↓WJ_none, ↓Wf_fz, ↓Wf_lst, ↓Wf_dct, ↓Wf_obj, ↓Wb_bl, ↓Wi_int, ↓Wif_true, ↓Wif_false, ↓Wv_fz, ↓Wv_ow, ↓Wv_owd, ↓Wv_owo, ↓Wsem_ok, ↓setR_fz, ↓setR_fr, ↓Wrv_some, ↓Wpk_some, ↓Wunp_fz, ↓Wunps_lst, ↓WisL_lst, ↓Wapp_ow, ↓Wapp_io, ↓Wseti_ow, ↓Wseti_io, ↓Wretv_fz, ↓Wretv_ow, ↓Wpop_io, ↓Wpop_ow, ↓Wturn_none, ↓Wturn_some, ↓accO_some, ↓accO_none, ↓res_val, ↓res_pk, ↓slotD_0, ↓slotD_s, W1_some, WJ_some, W1_none, WJ_none, Wf_fz, Wf_lst, Wf_dct, Wf_obj, Wb_bl, Wi_int, Wif_true, Wif_false, Wv_fz, Wv_ow, Wv_owd, Wv_owo, Wsem_ok, setR_fz, setR_fr, Wrv_some, Wpk_some, Wunp_fz, Wunps_lst, WisL_lst, Wapp_ow, Wapp_io, Wseti_ow, Wseti_io, Wretv_fz, Wretv_ow, Wpop_io, Wpop_ow, accO_some, accO_none, Int.reduceLT, Int.reduceLE, Nat.reduceLT, Nat.reduceLeDiff, Int.reduceToNat, Int.reduceAdd, Int.reduceSub, Int.reduceMul, Int.reduceNeg, decide_true, decide_false, Bool.or_true, Bool.true_or, Bool.or_false, Bool.false_or, Bool.and_true, Bool.true_and, Bool.and_false, Bool.false_and, Bool.not_true, Bool.not_false, and_true, true_and, Option.map_some, Option.map_none, Option.bind_some, Option.bind_none, List.set_cons_zero, List.set_cons_succ, k1_len_str, k1_len_tup, k1_len_lst, k1_len_frl, k1_abs, k1_neg, k1_int, k1_intb, k1_tuple_lst, k1_tuple_tup, k1_list_lst, k1_list_tup, k1_rev, k1_isN, k1_notN, k2_add, k2_add_str, k2_add_lst, k2_sub, k1_isT, k1_notT, k2_mul, k2_muls, k2_fdiv, k2_mod, k2_pow6, k2_pow18, k2_pow12, k2_lt, k2_le, k2_gt, k2_ge, k2_eq, k2_ne, k2_in, k2_notin, k2_idx, idx_0, idx_1, idx_2, idx_3, idt_0, idt_1, idt_2, idt_3, k2_max, slc_str, slc_lst, slc_frl, seq_lst, seq_tup, seq_str, turnE_nx, turnE_ct, turnE_rt, turnE_bk, wipeD, backW, freeT_nil, freeT_cons, freeT1_none, freeT1_fz, freeT1_fzs, lockI, lockD_n, lockD_s, openD_n, openD_s, bindT_1, bindT_2, bindM, size_le, List.foldl_cons, List.foldl_nil, List.all_cons, List.all_nil, List.getElem?_cons_zero, List.getElem?_cons_succ, Option.join_some, Option.join_none, List.zip_cons_cons, List.zip_nil_left, List.length_cons, List.length_nil, List.length_append, Nat.reduceAdd, Nat.reduceEqDiff, Bool.false_eq_true, if_true, if_false, ↓reduceIte, ite_true, ite_false, ki_int_int, ki_int_str, ki_int_bool, ki_int_list, ki_int_tuple, ki_int_dict, ki_bl_int, ki_bl_str, ki_bl_bool, ki_bl_list, ki_bl_tuple, ki_bl_dict, ki_str_int, ki_str_str, ki_str_bool, ki_str_list, ki_str_tuple, ki_str_dict, ki_lst_int, ki_lst_str, ki_lst_bool, ki_lst_list, ki_lst_tuple, ki_lst_dict, ki_frl_int, ki_frl_str, ki_frl_bool, ki_frl_list, ki_frl_tuple, ki_frl_dict, ki_tup_int, ki_tup_str, ki_tup_bool, ki_tup_list, ki_tup_tuple, ki_tup_dict, ki_dct_int, ki_dct_str, ki_dct_bool, ki_dct_list, ki_dct_tuple, ki_dct_dict, ki_non_int, ki_non_str, ki_non_bool, ki_non_list, ki_non_tuple, ki_non_dict, kis_nil, kis_t, kis_f, Z.argsOf, Z.argOf, Z.backTo, Z.outsOf, List.any_nil, List.any_cons, T_law_word_0_4]
    refine hrt _ _ ?_
    simp only [↓We_var, ↓We_int, ↓We_str, ↓We_bl, ↓We_non, ↓We_gl, ↓We_dspc, ↓We_fs, ↓We_tup, ↓We_lst, ↓We_op1, ↓We_op2, ↓We_sm1, ↓We_slc, ↓We_isi, ↓We_and, ↓We_or, ↓We_one, ↓We_not, ↓We_ife, ↓We_chn, ↓We_pop, ↓We_call, ↓We_callk, ↓We_comp, ↓Wr_var, ↓Wr_int, ↓Wr_str, ↓Wr_bl, ↓Wr_non, ↓Wr_gl, ↓Wr_dspc, ↓Wr_fs, ↓Wr_tup, ↓Wr_lst, ↓Wr_op1, ↓Wr_op2, ↓Wr_sm1, ↓Wr_slc, ↓Wr_isi, ↓Wr_and, ↓Wr_or, ↓Wr_not, ↓Wr_ife, ↓Wr_chn, ↓Wr_pop, ↓Wr_call, ↓Wr_callk, ↓Wr_comp, ↓Ws_set, ↓Ws_unp, ↓Ws_unps, ↓Ws_app, ↓Ws_seti, ↓Ws_setf, ↓Ws_expr, ↓Ws_ife, ↓Ws_for, ↓Ws_while, ↓Ws_ret, ↓Ws_retv, ↓Ws_retn, ↓Ws_brk, ↓Ws_cont, ↓Ws_pass, ↓Wss_cons, ↓Wss_nil, ↓Wes_nil, ↓Wes_cons, ↓Wo_none, ↓Wo_some, ↓Was_nil, ↓Was_ev, ↓Was_pk, ↓Wcall_def, catA_nil, catA_cons, ↓Wsrc_seq, ↓Wsrc_rng1, ↓Wsrc_rng2, ↓Wsrc_zip, ↓seq_nx, ↓seq_rt, ↓seq_bk, ↓seq_ct, ↓seq_ex, ↓W1_some, ↓WJ_some, ↓W1_none, ↓WJ_none, ↓Wf_fz, ↓Wf_lst, ↓Wf_dct, ↓Wf_obj, ↓Wb_bl, ↓Wi_int, ↓Wif_true, ↓Wif_false, ↓Wv_fz, ↓Wv_ow, ↓Wv_owd, ↓Wv_owo, ↓Wsem_ok, ↓setR_fz, ↓setR_fr, ↓Wrv_some, ↓Wpk_some, ↓Wunp_fz, ↓Wunps_lst, ↓WisL_lst, ↓Wapp_ow, ↓Wapp_io, ↓Wseti_ow, ↓Wseti_io, ↓Wretv_fz, ↓Wretv_ow, ↓Wpop_io, ↓Wpop_ow, ↓Wturn_none, ↓Wturn_some, ↓accO_some, ↓accO_none, ↓res_val, ↓res_pk, ↓slotD_0, ↓slotD_s, W1_some, WJ_some, W1_none, WJ_none, Wf_fz, Wf_lst, Wf_dct, Wf_obj, Wb_bl, Wi_int, Wif_true, Wif_false, Wv_fz, Wv_ow, Wv_owd, Wv_owo, Wsem_ok, setR_fz, setR_fr, Wrv_some, Wpk_some, Wunp_fz, Wunps_lst, WisL_lst, Wapp_ow, Wapp_io, Wseti_ow, Wseti_io, Wretv_fz, Wretv_ow, Wpop_io, Wpop_ow, accO_some, accO_none, Int.reduceLT, Int.reduceLE, Nat.reduceLT, Nat.reduceLeDiff, Int.reduceToNat, Int.reduceAdd, Int.reduceSub, Int.reduceMul, Int.reduceNeg, decide_true, decide_false, Bool.or_true, Bool.true_or, Bool.or_false, Bool.false_or, Bool.and_true, Bool.true_and, Bool.and_false, Bool.false_and, Bool.not_true, Bool.not_false, and_true, true_and, Option.map_some, Option.map_none, Option.bind_some, Option.bind_none, List.set_cons_zero, List.set_cons_succ, k1_len_str, k1_len_tup, k1_len_lst, k1_len_frl, k1_abs, k1_neg, k1_int, k1_intb, k1_tuple_lst, k1_tuple_tup, k1_list_lst, k1_list_tup, k1_rev, k1_isN, k1_notN, k2_add, k2_add_str, k2_add_lst, k2_sub, k1_isT, k1_notT, k2_mul, k2_muls, k2_fdiv, k2_mod, k2_pow6, k2_pow18, k2_pow12, k2_lt, k2_le, k2_gt, k2_ge, k2_eq, k2_ne, k2_in, k2_notin, k2_idx, idx_0, idx_1, idx_2, idx_3, idt_0, idt_1, idt_2, idt_3, k2_max, slc_str, slc_lst, slc_frl, seq_lst, seq_tup, seq_str, turnE_nx, turnE_ct, turnE_rt, turnE_bk, wipeD, backW, freeT_nil, freeT_cons, freeT1_none, freeT1_fz, freeT1_fzs, lockI, lockD_n, lockD_s, openD_n, openD_s, bindT_1, bindT_2, bindM, size_le, List.foldl_cons, List.foldl_nil, List.all_cons, List.all_nil, List.getElem?_cons_zero, List.getElem?_cons_succ, Option.join_some, Option.join_none, List.zip_cons_cons, List.zip_nil_left, List.length_cons, List.length_nil, List.length_append, Nat.reduceAdd, Nat.reduceEqDiff, Bool.false_eq_true, if_true, if_false, ↓reduceIte, ite_true, ite_false, ki_int_int, ki_int_str, ki_int_bool, ki_int_list, ki_int_tuple, ki_int_dict, ki_bl_int, ki_bl_str, ki_bl_bool, ki_bl_list, ki_bl_tuple, ki_bl_dict, ki_str_int, ki_str_str, ki_str_bool, ki_str_list, ki_str_tuple, ki_str_dict, ki_lst_int, ki_lst_str, ki_lst_bool, ki_lst_list, ki_lst_tuple, ki_lst_dict, ki_frl_int, ki_frl_str, ki_frl_bool, ki_frl_list, ki_frl_tuple, ki_frl_dict, ki_tup_int, ki_tup_str, ki_tup_bool, ki_tup_list, ki_tup_tuple, ki_tup_dict, ki_dct_int, ki_dct_str, ki_dct_bool, ki_dct_list, ki_dct_tuple, ki_dct_dict, ki_non_int, ki_non_str, ki_non_bool, ki_non_list, ki_non_tuple, ki_non_dict, kis_nil, kis_t, kis_f, Z.argsOf, Z.argOf, Z.backTo, Z.outsOf, List.any_nil, List.any_cons]
    exact ⟨t, fs, ⟨ht, by omega⟩, by omega, hn, hf, rfl, rfl⟩
  simp only [↓We_var, ↓We_int, ↓We_str, ↓We_bl, ↓We_non, ↓We_gl, ↓We_dspc, ↓We_fs, ↓We_tup, ↓We_lst, ↓We_op1, ↓We_op2, ↓We_sm1, ↓We_slc, ↓We_isi, ↓We_and, ↓We_or, ↓We_one, ↓We_not, ↓We_ife, ↓We_chn, ↓We_pop, ↓We_call, ↓We_callk, ↓We_comp, ↓Wr_var, ↓Wr_int, ↓Wr_str, ↓Wr_bl, ↓Wr_non, ↓Wr_gl, ↓Wr_dspc, ↓Wr_fs, ↓Wr_tup, ↓Wr_lst, ↓Wr_op1, ↓Wr_op2, ↓Wr_sm1, ↓Wr_slc, ↓Wr_isi, ↓Wr_and, ↓Wr_or, ↓Wr_not, ↓Wr_ife, ↓Wr_chn, ↓Wr_pop, ↓Wr_call, ↓Wr_callk, ↓Wr_comp, ↓Ws_set, ↓Ws_unp, ↓Ws_unps, ↓Ws_app, ↓Ws_seti, ↓Ws_setf, ↓Ws_expr, ↓Ws_ife, ↓Ws_for, ↓Ws_while, ↓Ws_ret, ↓Ws_retv, ↓Ws_retn, ↓Ws_brk, ↓Ws_cont, ↓Ws_pass, ↓Wss_cons, ↓Wss_nil, ↓Wes_nil, ↓Wes_cons, ↓Wo_none, ↓Wo_some, ↓Was_nil, ↓Was_ev, ↓Was_pk, ↓Wcall_def, catA_nil, catA_cons, ↓Wsrc_seq, ↓Wsrc_rng1, ↓Wsrc_rng2, ↓Wsrc_zip, ↓seq_nx, ↓seq_rt, ↓seq_bk, ↓seq_ct, ↓seq_ex, ↓W1_some, ↓WJ_some, ↓W1_none, ↓WJ_none, ↓Wf_fz, ↓Wf_lst, ↓Wf_dct, ↓Wf_obj, ↓Wb_bl, ↓Wi_int, ↓Wif_true, ↓Wif_false, ↓Wv_fz, ↓Wv_ow, ↓Wv_owd, ↓Wv_owo, ↓Wsem_ok, ↓setR_fz, ↓setR_fr, ↓Wrv_some, ↓Wpk_some, ↓Wunp_fz, ↓Wunps_lst, ↓WisL_lst, ↓Wapp_ow, ↓Wapp_io, ↓Wseti_ow, ↓Wseti_io, ↓Wretv_fz, ↓Wretv_ow, ↓Wpop_io, ↓Wpop_ow, ↓Wturn_none, ↓Wturn_some, ↓accO_some, ↓accO_none, ↓res_val, ↓res_pk, ↓slotD_0, ↓slotD_s, W1_some, WJ_some, W1_none, WJ_none, Wf_fz, Wf_lst, Wf_dct, Wf_obj, Wb_bl, Wi_int, Wif_true, Wif_false, Wv_fz, Wv_ow, Wv_owd, Wv_owo, Wsem_ok, setR_fz, setR_fr, Wrv_some, Wpk_some, Wunp_fz, Wunps_lst, WisL_lst, Wapp_ow, Wapp_io, Wseti_ow, Wseti_io, Wretv_fz, Wretv_ow, Wpop_io, Wpop_ow, accO_some, accO_none, Int.reduceLT, Int.reduceLE, Nat.reduceLT, Nat.reduceLeDiff, Int.reduceToNat, Int.reduceAdd, Int.reduceSub, Int.reduceMul, Int.reduceNeg, decide_true, decide_false, Bool.or_true, Bool.true_or, Bool.or_false, Bool.false_or, Bool.and_true, Bool.true_and, Bool.and_false, Bool.false_and, Bool.not_true, Bool.not_false, and_true, true_and, Option.map_some, Option.map_none, Option.bind_some, Option.bind_none, List.set_cons_zero, List.set_cons_succ, k1_len_str, k1_len_tup, k1_len_lst, k1_len_frl, k1_abs, k1_neg, k1_int, k1_intb, k1_tuple_lst, k1_tuple_tup, k1_list_lst, k1_list_tup, k1_rev, k1_isN, k1_notN, k2_add, k2_add_str, k2_add_lst, k2_sub, k1_isT, k1_notT, k2_mul, k2_muls, k2_fdiv, k2_mod, k2_pow6, k2_pow18, k2_pow12, k2_lt, k2_le, k2_gt, k2_ge, k2_eq, k2_ne, k2_in, k2_notin, k2_idx, idx_0, idx_1, idx_2, idx_3, idt_0, idt_1, idt_2, idt_3, k2_max, slc_str, slc_lst, slc_frl, seq_lst, seq_tup, seq_str, turnE_nx, turnE_ct, turnE_rt, turnE_bk, wipeD, backW, freeT_nil, freeT_cons, freeT1_none, freeT1_fz, freeT1_fzs, lockI, lockD_n, lockD_s, openD_n, openD_s, bindT_1, bindT_2, bindM, size_le, List.foldl_cons, List.foldl_nil, List.all_cons, List.all_nil, List.getElem?_cons_zero, List.getElem?_cons_succ, Option.join_some, Option.join_none, List.zip_cons_cons, List.zip_nil_left, List.length_cons, List.length_nil, List.length_append, Nat.reduceAdd, Nat.reduceEqDiff, Bool.false_eq_true, if_true, if_false, ↓reduceIte, ite_true, ite_false, ki_int_int, ki_int_str, ki_int_bool, ki_int_list, ki_int_tuple, ki_int_dict, ki_bl_int, ki_bl_str, ki_bl_bool, ki_bl_list, ki_bl_tuple, ki_bl_dict, ki_str_int, ki_str_str, ki_str_bool, ki_str_list, ki_str_tuple, ki_str_dict, ki_lst_int, ki_lst_str, ki_lst_bool, ki_lst_list, ki_lst_tuple, ki_lst_dict, ki_frl_int, ki_frl_str, ki_frl_bool, ki_frl_list, ki_frl_tuple, ki_frl_dict, ki_tup_int, ki_tup_str, ki_tup_bool, ki_tup_list, ki_tup_tuple, ki_tup_dict, ki_dct_int, ki_dct_str, ki_dct_bool, ki_dct_list, ki_dct_tuple, ki_dct_dict, ki_non_int, ki_non_str, ki_non_bool, ki_non_list, ki_non_tuple, ki_non_dict, kis_nil, kis_t, kis_f, Z.argsOf, Z.argOf, Z.backTo, Z.outsOf, List.any_nil, List.any_cons, T_law_word_0_2, T_law_word_2_0, eqD_str hok.1 (show ∀ c ∈ [110, 111, 116], c < 1114112 by simp)]
  refine ⟨fun h => ?_, fun h => ?_⟩
  · exact rest [110, 111, 116, 101] a ⟨by decide, by decide⟩ (by decide) (by decide +kernel)
  · refine rest (c0 :: s) a hok (by simp; omega) ?_
    rw [k1_word hok (fun h => (sd 64 (hall 64 h)).2 rfl), wordB, h, wordLike]
    have h1 : (c0 :: s).length ≤ 12 := by simp; omega
    have h2 : onlyB s (SML ++ DIG) = true := List.all_eq_true.mpr fun c hc => decide_eq_true (hs c hc)
    rw [decide_eq_true h1, decide_eq_true hc0, h2]
    rfl
end Z

set_option Elab.async false
set_option linter.all false
set_option maxHeartbeats 1000000
set_option maxRecDepth 100000
namespace Gk02
open PySem L2 Z
/-! ### the defs in the small syntax -/
/-- _law_mode: 0 _law_flow_here, 1 _law_k -/
def T_law_mode_0_0 : Sts := .cons (.ret (.sm1 .join (.str []) (.comp [1] (.rng1 (.call F_law_draw (.pk 0 (.ev (.int 6) .nil)))) .none (.op2 .idx (.str [98, 102]) (.call F_law_draw (.pk 0 (.ev (.int 2) .nil))))))) .nil
def B_law_mode : Sts := T_law_mode_0_0
def F_law_mode : Fn := ⟨21, runF 1 2 B_law_mode⟩
theorem F_law_mode_sem (xs : List (Md × D)) : F_law_mode.sem xs = runF 1 2 B_law_mode xs := rfl
/-- _law_side: 0 _law_text, 1 _law_most, 2 _law_many, 3 _law_char -/
def T_law_side_1_1 : Sts := .cons (.set 1 (.op2 .max (.var 1) (.var 2))) .nil
def T_law_side_1_0 : Sts := .cons (.set 2 (.ife (.op2 .eq (.var 3) (.str [64])) (.op2 .add (.var 2) (.int 1)) (.int 0))) T_law_side_1_1
def T_law_side_0_3 : Sts := .cons (.retv 1) .nil
def T_law_side_0_2 : Sts := .cons (.for_ [3] (.seq (.var 0)) T_law_side_1_0) T_law_side_0_3
def T_law_side_0_1 : Sts := .cons (.set 2 (.int 0)) T_law_side_0_2
def T_law_side_0_0 : Sts := .cons (.set 1 (.int 0)) T_law_side_0_1
def B_law_side : Sts := T_law_side_0_0
def F_law_side : Fn := ⟨22, runF 1 4 B_law_side⟩
theorem F_law_side_sem (xs : List (Md × D)) : F_law_side.sem xs = runF 1 4 B_law_side xs := rfl
/-- law: 0 _law_script, 1 _law_flow_here, 2 _law_names, 3 _law_modes, 4 _law_same, 5 _law_numbers, 6 _law_k, 7 _law_high, 8 _law_told, 9 _law_name, 10 _law_mode_here, 11 _law_first, 12 _law_second, 13 _law_tail, 14 _law_start, 15 _law_due, 16 _law_back, 17 _law_j, 18 _law_alike, 19 _law_i -/
def Tlaw_1_0 : Sts := .cons (.seti 2 (.int 1) (.op2 .idx (.var 2) (.int 0))) .nil
def Tlaw_2_0 : Sts := .cons (.seti 3 (.int 1) (.op2 .idx (.var 3) (.int 0))) .nil
def Tlaw_5_0 : Sts := .cons (.ret (.bl false)) .nil
def Tlaw_6_0 : Sts := .cons (.ret (.bl false)) .nil
def Tlaw_4_1 : Sts := .cons (.ife (.and (.op2 .lt (.var 17) (.int 3)) (.one (.op2 .in_ (.op2 .idx (.var 16) (.var 17)) (.var 2)))) Tlaw_6_0 .nil) .nil
def Tlaw_4_0 : Sts := .cons (.ife (.or (.not (.isi (.op2 .idx (.var 16) (.var 17)) true [.str])) (.or (.op2 .ne (.op2 .idx (.var 16) (.var 17)) (.op2 .idx (.var 15) (.var 17))) (.one (.op1 .notT (.call Fis_name (.ev (.op2 .idx (.var 16) (.var 17)) .nil)))))) Tlaw_5_0 .nil) Tlaw_4_1
def Tlaw_3_11 : Sts := .cons (.app 8 (.slc (.var 16) .none (.some (.int 3)))) .nil
def Tlaw_3_10 : Sts := .cons (.for_ [17] (.rng1 (.int 6)) Tlaw_4_0) Tlaw_3_11
def Tlaw_3_9 : Sts := .cons (.set 16 (.op2 .add (.var 16) (.lst (.cons (.call Fmarked_d1 (.ev (.var 9) (.ev (.var 10) .nil))) (.cons (.call Fasked_d1 (.ev (.var 9) (.ev (.var 10) .nil))) (.cons (.call Fstepped_d1 (.ev (.var 9) (.ev (.var 10) (.ev (.var 11) (.ev (.var 12) .nil))))) .nil)))))) Tlaw_3_10
def Tlaw_3_8 : Sts := .cons (.set 16 (.op2 .add (.var 16) (.lst (.cons (.callk Fstepped_k_level (.ev (.var 9) (.ev (.var 10) (.ev (.var 11) (.ev (.var 12) .nil)))) (.ev (.var 7) .nil)) .nil)))) Tlaw_3_9
def Tlaw_3_7 : Sts := .cons (.set 16 (.lst (.cons (.callk Fmarked_k_level (.ev (.var 9) (.ev (.var 10) .nil)) (.ev (.var 7) .nil)) (.cons (.callk Fasked_k_level (.ev (.var 9) (.ev (.var 10) .nil)) (.ev (.var 7) .nil)) .nil)))) Tlaw_3_8
def Tlaw_3_6 : Sts := .cons (.set 15 (.lst (.cons (.var 14) (.cons (.op2 .add (.var 14) (.str [63])) (.cons (.op2 .add (.var 14) (.var 13)) (.cons (.op2 .add (.op2 .add (.var 9) (.str [64])) (.var 10)) (.cons (.op2 .add (.op2 .add (.op2 .add (.var 9) (.str [64])) (.var 10)) (.str [63])) (.cons (.op2 .add (.op2 .add (.op2 .add (.var 9) (.str [64])) (.var 10)) (.var 13)) .nil)))))))) Tlaw_3_7
def Tlaw_3_5 : Sts := .cons (.set 14 (.op2 .add (.op2 .add (.var 9) (.op2 .mul (.str [64]) (.var 7))) (.var 10))) Tlaw_3_6
def Tlaw_3_4 : Sts := .cons (.set 13 (.op2 .add (.op2 .add (.op2 .add (.str [47]) (.op1 .str (.var 11))) (.str [47])) (.op1 .str (.var 12)))) Tlaw_3_5
def Tlaw_3_3 : Sts := .cons (.set 12 (.op2 .idx (.var 5) (.op2 .add (.op2 .mul (.int 2) (.var 6)) (.int 1)))) Tlaw_3_4
def Tlaw_3_2 : Sts := .cons (.set 11 (.op2 .idx (.var 5) (.op2 .mul (.int 2) (.var 6)))) Tlaw_3_3
def Tlaw_3_1 : Sts := .cons (.set 10 (.op2 .idx (.var 3) (.var 6))) Tlaw_3_2
def Tlaw_3_0 : Sts := .cons (.set 9 (.op2 .idx (.var 2) (.var 6))) Tlaw_3_1
def Tlaw_7_0 : Sts := .cons (.ret (.bl false)) .nil
def Tlaw_8_0 : Sts := .cons (.ret (.bl false)) .nil
def Tlaw_11_0 : Sts := .cons (.ret (.bl false)) .nil
def Tlaw_10_0 : Sts := .cons (.ife (.and (.op2 .ne (.var 19) (.var 17)) (.one (.op2 .eq (.op2 .idx (.op2 .idx (.var 8) (.int 0)) (.var 19)) (.op2 .idx (.op2 .idx (.var 8) (.int 1)) (.var 17))))) Tlaw_11_0 .nil) .nil
def Tlaw_9_0 : Sts := .cons (.for_ [17] (.rng1 (.int 3)) Tlaw_10_0) .nil
def Tlaw_0_14 : Sts := .cons (.ret (.bl true)) .nil
def Tlaw_0_13 : Sts := .cons (.for_ [19] (.rng1 (.int 3)) Tlaw_9_0) Tlaw_0_14
def Tlaw_0_12 : Sts := .cons (.ife (.op2 .ne (.op2 .eq (.op2 .idx (.op2 .idx (.var 8) (.int 0)) (.int 2)) (.op2 .idx (.op2 .idx (.var 8) (.int 1)) (.int 2))) (.and (.var 18) (.one (.op2 .eq (.slc (.var 5) .none (.some (.int 2))) (.slc (.var 5) (.some (.int 2)) .none))))) Tlaw_8_0 .nil) Tlaw_0_13
def Tlaw_0_11 : Sts := .cons (.ife (.or (.op2 .ne (.op2 .eq (.op2 .idx (.op2 .idx (.var 8) (.int 0)) (.int 0)) (.op2 .idx (.op2 .idx (.var 8) (.int 1)) (.int 0))) (.var 18)) (.one (.op2 .ne (.op2 .eq (.op2 .idx (.op2 .idx (.var 8) (.int 0)) (.int 1)) (.op2 .idx (.op2 .idx (.var 8) (.int 1)) (.int 1))) (.var 18)))) Tlaw_7_0 .nil) Tlaw_0_12
def Tlaw_0_10 : Sts := .cons (.set 18 (.and (.op2 .eq (.op2 .idx (.var 2) (.int 0)) (.op2 .idx (.var 2) (.int 1))) (.one (.op2 .eq (.op2 .idx (.var 3) (.int 0)) (.op2 .idx (.var 3) (.int 1)))))) Tlaw_0_11
def Tlaw_0_9 : Sts := .cons (.for_ [6] (.rng1 (.int 2)) Tlaw_3_0) Tlaw_0_10
def Tlaw_0_8 : Sts := .cons (.set 8 (.lst .nil)) Tlaw_0_9
def Tlaw_0_7 : Sts := .cons (.set 7 (.op2 .add (.int 1) (.op2 .max (.call F_law_side (.ev (.op2 .idx (.var 2) (.int 0)) .nil)) (.call F_law_side (.ev (.op2 .idx (.var 2) (.int 1)) .nil))))) Tlaw_0_8
def Tlaw_0_6 : Sts := .cons (.set 5 (.comp [6] (.rng1 (.int 4)) .none (.call F_law_draw (.pk 1 (.ev (.int 10000) .nil))))) Tlaw_0_7
def Tlaw_0_5 : Sts := .cons (.ife (.op2 .eq (.var 4) (.int 2)) Tlaw_2_0 .nil) Tlaw_0_6
def Tlaw_0_4 : Sts := .cons (.ife (.op2 .eq (.var 4) (.int 1)) Tlaw_1_0 .nil) Tlaw_0_5
def Tlaw_0_3 : Sts := .cons (.set 4 (.call F_law_draw (.pk 1 (.ev (.int 4) .nil)))) Tlaw_0_4
def Tlaw_0_2 : Sts := .cons (.set 3 (.lst (.cons (.call F_law_mode (.pk 1 .nil)) (.cons (.call F_law_mode (.pk 1 .nil)) .nil)))) Tlaw_0_3
def Tlaw_0_1 : Sts := .cons (.set 2 (.lst (.cons (.call F_law_word (.pk 1 .nil)) (.cons (.call F_law_word (.pk 1 .nil)) .nil)))) Tlaw_0_2
def Tlaw_0_0 : Sts := .cons (.set 1 (.call F_law_flow (.ev (.var 0) .nil))) Tlaw_0_1
def Blaw : Sts := Tlaw_0_0
def Flaw : Fn := ⟨23, runF 1 20 Blaw⟩
theorem Flaw_sem (xs : List (Md × D)) : Flaw.sem xs = runF 1 20 Blaw xs := rfl
end Gk02
namespace Gk02
open PySem Z
theorem mode_ok {fs : List Int} (hf : Small fs) : ∃ (m : List Nat) (fs' : List Int), Bf m ∧ m.length ≤ 5 ∧ Small fs' ∧ F_law_mode.sem [(.io, flw fs)] = .ok (.fz (.str m)) [flw fs'] := by
  rw [F_law_mode_sem]
  suffices ∃ r outs, runF 1 2 B_law_mode [(.io, flw fs)] = .ok r outs ∧ ∃ (m : List Nat) (fs' : List Int), Bf m ∧ m.length ≤ 5 ∧ Small fs' ∧ r = .fz (.str m) ∧ outs = [flw fs'] by
    obtain ⟨r, outs, e, m, fs', h1, h2, h3, rfl, rfl⟩ := this
    exact ⟨m, fs', h1, h2, h3, e⟩
  refine runF_to (np := 1) _ rfl fun En hrt hnx => ?_; simp only [List.map_cons, List.map_nil, List.replicate, Nat.reduceSub, List.replicate_zero, List.cons_append, List.nil_append, B_law_mode, T_law_mode_0_0]
  simp only [↓We_var, ↓We_int, ↓We_str, ↓We_bl, ↓We_non, ↓We_gl, ↓We_dspc, ↓We_fs, ↓We_tup, ↓We_lst, ↓We_op1, ↓We_op2, ↓We_sm1, ↓We_slc, ↓We_isi, ↓We_and, ↓We_or, ↓We_one, ↓We_not, ↓We_ife, ↓We_chn, ↓We_pop, ↓We_call, ↓We_callk, ↓We_comp, ↓Wr_var, ↓Wr_int, ↓Wr_str, ↓Wr_bl, ↓Wr_non, ↓Wr_gl, ↓Wr_dspc, ↓Wr_fs, ↓Wr_tup, ↓Wr_lst, ↓Wr_op1, ↓Wr_op2, ↓Wr_sm1, ↓Wr_slc, ↓Wr_isi, ↓Wr_and, ↓Wr_or, ↓Wr_not, ↓Wr_ife, ↓Wr_chn, ↓Wr_pop, ↓Wr_call, ↓Wr_callk, ↓Wr_comp, ↓Ws_set, ↓Ws_unp, ↓Ws_unps, ↓Ws_app, ↓Ws_seti, ↓Ws_setf, ↓Ws_expr, ↓Ws_ife, ↓Ws_for, ↓Ws_while, ↓Ws_ret, ↓Ws_retv, ↓Ws_retn, ↓Ws_brk, ↓Ws_cont, ↓Ws_pass, ↓Wss_cons, ↓Wss_nil, ↓Wes_nil, ↓Wes_cons, ↓Wo_none, ↓Wo_some, ↓Was_nil, ↓Was_ev, ↓Was_pk, ↓Wcall_def, catA_nil, catA_cons, ↓Wsrc_seq, ↓Wsrc_rng1, ↓Wsrc_rng2, ↓Wsrc_zip, ↓seq_nx, ↓seq_rt, ↓seq_bk, ↓seq_ct, ↓seq_ex, ↓W1_some, ↓WJ_some, ↓W1_none, ↓WJ_none, ↓Wf_fz, ↓Wf_lst, ↓Wf_dct, ↓Wf_obj, ↓Wb_bl, ↓Wi_int, ↓Wif_true, ↓Wif_false, ↓Wv_fz, ↓Wv_ow, ↓Wv_owd, ↓Wv_owo, ↓Wsem_ok, ↓setR_fz, ↓setR_fr, ↓Wrv_some, ↓Wpk_some, ↓Wunp_fz, ↓Wunps_lst, ↓WisL_lst, ↓Wapp_ow, ↓Wapp_io, ↓Wseti_ow, ↓Wseti_io, ↓Wretv_fz, ↓Wretv_ow, ↓Wpop_io, ↓Wpop_ow, ↓Wturn_none, ↓Wturn_some, ↓accO_some, ↓accO_none, ↓res_val, ↓res_pk, ↓slotD_0, ↓slotD_s, W1_some, WJ_some, W1_none, WJ_none, Wf_fz, Wf_lst, Wf_dct, Wf_obj, Wb_bl, Wi_int, Wif_true, Wif_false, Wv_fz, Wv_ow, Wv_owd, Wv_owo, Wsem_ok, setR_fz, setR_fr, Wrv_some, Wpk_some, Wunp_fz, Wunps_lst, WisL_lst, Wapp_ow, Wapp_io, Wseti_ow, Wseti_io, Wretv_fz, Wretv_ow, Wpop_io, Wpop_ow, accO_some, accO_none, Int.reduceLT, Int.reduceLE, Nat.reduceLT, Nat.reduceLeDiff, Int.reduceToNat, Int.reduceAdd, Int.reduceSub, Int.reduceMul, Int.reduceNeg, decide_true, decide_false, Bool.or_true, Bool.true_or, Bool.or_false, Bool.false_or, Bool.and_true, Bool.true_and, Bool.and_false, Bool.false_and, Bool.not_true, Bool.not_false, and_true, true_and, Option.map_some, Option.map_none, Option.bind_some, Option.bind_none, List.set_cons_zero, List.set_cons_succ, k1_len_str, k1_len_tup, k1_len_lst, k1_len_frl, k1_abs, k1_neg, k1_int, k1_intb, k1_tuple_lst, k1_tuple_tup, k1_list_lst, k1_list_tup, k1_rev, k1_isN, k1_notN, k2_add, k2_add_str, k2_add_lst, k2_sub, k1_isT, k1_notT, k2_mul, k2_muls, k2_fdiv, k2_mod, k2_pow6, k2_pow18, k2_pow12, k2_lt, k2_le, k2_gt, k2_ge, k2_eq, k2_ne, k2_in, k2_notin, k2_idx, idx_0, idx_1, idx_2, idx_3, idt_0, idt_1, idt_2, idt_3, k2_max, slc_str, slc_lst, slc_frl, seq_lst, seq_tup, seq_str, turnE_nx, turnE_ct, turnE_rt, turnE_bk, wipeD, backW, freeT_nil, freeT_cons, freeT1_none, freeT1_fz, freeT1_fzs, lockI, lockD_n, lockD_s, openD_n, openD_s, bindT_1, bindT_2, bindM, size_le, List.foldl_cons, List.foldl_nil, List.all_cons, List.all_nil, List.getElem?_cons_zero, List.getElem?_cons_succ, Option.join_some, Option.join_none, List.zip_cons_cons, List.zip_nil_left, List.length_cons, List.length_nil, List.length_append, Nat.reduceAdd, Nat.reduceEqDiff, Bool.false_eq_true, if_true, if_false, ↓reduceIte, ite_true, ite_false, ki_int_int, ki_int_str, ki_int_bool, ki_int_list, ki_int_tuple, ki_int_dict, ki_bl_int, ki_bl_str, ki_bl_bool, ki_bl_list, ki_bl_tuple, ki_bl_dict, ki_str_int, ki_str_str, ki_str_bool, ki_str_list, ki_str_tuple, ki_str_dict, ki_lst_int, ki_lst_str, ki_lst_bool, ki_lst_list, ki_lst_tuple, ki_lst_dict, ki_frl_int, ki_frl_str, ki_frl_bool, ki_frl_list, ki_frl_tuple, ki_frl_dict, ki_tup_int, ki_tup_str, ki_tup_bool, ki_tup_list, ki_tup_tuple, ki_tup_dict, ki_dct_int, ki_dct_str, ki_dct_bool, ki_dct_list, ki_dct_tuple, ki_dct_dict, ki_non_int, ki_non_str, ki_non_bool, ki_non_list, ki_non_tuple, ki_non_dict, kis_nil, kis_t, kis_f, Z.argsOf, Z.argOf, Z.backTo, Z.outsOf, List.any_nil, List.any_cons]
  obtain ⟨v, fs, v_lt, hf, e_dr⟩ := draw_ok hf (n := 6) (by first | decide | omega); simp only [↓We_var, ↓We_int, ↓We_str, ↓We_bl, ↓We_non, ↓We_gl, ↓We_dspc, ↓We_fs, ↓We_tup, ↓We_lst, ↓We_op1, ↓We_op2, ↓We_sm1, ↓We_slc, ↓We_isi, ↓We_and, ↓We_or, ↓We_one, ↓We_not, ↓We_ife, ↓We_chn, ↓We_pop, ↓We_call, ↓We_callk, ↓We_comp, ↓Wr_var, ↓Wr_int, ↓Wr_str, ↓Wr_bl, ↓Wr_non, ↓Wr_gl, ↓Wr_dspc, ↓Wr_fs, ↓Wr_tup, ↓Wr_lst, ↓Wr_op1, ↓Wr_op2, ↓Wr_sm1, ↓Wr_slc, ↓Wr_isi, ↓Wr_and, ↓Wr_or, ↓Wr_not, ↓Wr_ife, ↓Wr_chn, ↓Wr_pop, ↓Wr_call, ↓Wr_callk, ↓Wr_comp, ↓Ws_set, ↓Ws_unp, ↓Ws_unps, ↓Ws_app, ↓Ws_seti, ↓Ws_setf, ↓Ws_expr, ↓Ws_ife, ↓Ws_for, ↓Ws_while, ↓Ws_ret, ↓Ws_retv, ↓Ws_retn, ↓Ws_brk, ↓Ws_cont, ↓Ws_pass, ↓Wss_cons, ↓Wss_nil, ↓Wes_nil, ↓Wes_cons, ↓Wo_none, ↓Wo_some, ↓Was_nil, ↓Was_ev, ↓Was_pk, ↓Wcall_def, catA_nil, catA_cons, ↓Wsrc_seq, ↓Wsrc_rng1, ↓Wsrc_rng2, ↓Wsrc_zip, ↓seq_nx, ↓seq_rt, ↓seq_bk, ↓seq_ct, ↓seq_ex, ↓W1_some, ↓WJ_some, ↓W1_none, ↓WJ_none, ↓Wf_fz, ↓Wf_lst, ↓Wf_dct, ↓Wf_obj, ↓Wb_bl, ↓Wi_int, ↓Wif_true, ↓Wif_false, ↓Wv_fz, ↓Wv_ow, ↓Wv_owd, ↓Wv_owo, ↓Wsem_ok, ↓setR_fz, ↓setR_fr, ↓Wrv_some, ↓Wpk_some, ↓Wunp_fz, ↓Wunps_lst, ↓WisL_lst, ↓Wapp_ow, ↓Wapp_io, ↓Wseti_ow, ↓Wseti_io, ↓Wretv_fz, ↓Wretv_ow, ↓Wpop_io, ↓Wpop_ow, ↓Wturn_none, ↓Wturn_some, ↓accO_some, ↓accO_none, ↓res_val, ↓res_pk, ↓slotD_0, ↓slotD_s, W1_some, WJ_some, W1_none, WJ_none, Wf_fz, Wf_lst, Wf_dct, Wf_obj, Wb_bl, Wi_int, Wif_true, Wif_false, Wv_fz, Wv_ow, Wv_owd, Wv_owo, Wsem_ok, setR_fz, setR_fr, Wrv_some, Wpk_some, Wunp_fz, Wunps_lst, WisL_lst, Wapp_ow, Wapp_io, Wseti_ow, Wseti_io, Wretv_fz, Wretv_ow, Wpop_io, Wpop_ow, accO_some, accO_none, Int.reduceLT, Int.reduceLE, Nat.reduceLT, Nat.reduceLeDiff, Int.reduceToNat, Int.reduceAdd, Int.reduceSub, Int.reduceMul, Int.reduceNeg, decide_true, decide_false, Bool.or_true, Bool.true_or, Bool.or_false, Bool.false_or, Bool.and_true, Bool.true_and, Bool.and_false, Bool.false_and, Bool.not_true, Bool.not_false, and_true, true_and, Option.map_some, Option.map_none, Option.bind_some, Option.bind_none, List.set_cons_zero, List.set_cons_succ, k1_len_str, k1_len_tup, k1_len_lst, k1_len_frl, k1_abs, k1_neg, k1_int, k1_intb, k1_tuple_lst, k1_tuple_tup, k1_list_lst, k1_list_tup, k1_rev, k1_isN, k1_notN, k2_add, k2_add_str, k2_add_lst, k2_sub, k1_isT, k1_notT, k2_mul, k2_muls, k2_fdiv, k2_mod, k2_pow6, k2_pow18, k2_pow12, k2_lt, k2_le, k2_gt, k2_ge, k2_eq, k2_ne, k2_in, k2_notin, k2_idx, idx_0, idx_1, idx_2, idx_3, idt_0, idt_1, idt_2, idt_3, k2_max, slc_str, slc_lst, slc_frl, seq_lst, seq_tup, seq_str, turnE_nx, turnE_ct, turnE_rt, turnE_bk, wipeD, backW, freeT_nil, freeT_cons, freeT1_none, freeT1_fz, freeT1_fzs, lockI, lockD_n, lockD_s, openD_n, openD_s, bindT_1, bindT_2, bindM, size_le, List.foldl_cons, List.foldl_nil, List.all_cons, List.all_nil, List.getElem?_cons_zero, List.getElem?_cons_succ, Option.join_some, Option.join_none, List.zip_cons_cons, List.zip_nil_left, List.length_cons, List.length_nil, List.length_append, Nat.reduceAdd, Nat.reduceEqDiff, Bool.false_eq_true, if_true, if_false, ↓reduceIte, ite_true, ite_false, ki_int_int, ki_int_str, ki_int_bool, ki_int_list, ki_int_tuple, ki_int_dict, ki_bl_int, ki_bl_str, ki_bl_bool, ki_bl_list, ki_bl_tuple, ki_bl_dict, ki_str_int, ki_str_str, ki_str_bool, ki_str_list, ki_str_tuple, ki_str_dict, ki_lst_int, ki_lst_str, ki_lst_bool, ki_lst_list, ki_lst_tuple, ki_lst_dict, ki_frl_int, ki_frl_str, ki_frl_bool, ki_frl_list, ki_frl_tuple, ki_frl_dict, ki_tup_int, ki_tup_str, ki_tup_bool, ki_tup_list, ki_tup_tuple, ki_tup_dict, ki_dct_int, ki_dct_str, ki_dct_bool, ki_dct_list, ki_dct_tuple, ki_dct_dict, ki_non_int, ki_non_str, ki_non_bool, ki_non_list, ki_non_tuple, ki_non_dict, kis_nil, kis_t, kis_f, Z.argsOf, Z.argOf, Z.backTo, Z.outsOf, List.any_nil, List.any_cons, e_dr]; clear e_dr
  refine ⟨range62_lit (by omega), ?_⟩
  rw [Int.toNat_natCast]
  refine Wcomp.by (fun pre acc δ => ∃ (a : Option D) (fs : List Int) (m : List Nat), Small fs ∧ Bf m ∧ m.length = pre.length ∧ acc = m.map (fun c => D.str [c]) ∧ δ = [some (.io, flw fs), fzs a]) (by simp [intsD]; exact sz (by omega)) ⟨none, fs, [], hf, by simp [Bf], rfl, rfl, rfl⟩ ?_ ?_
  · rintro pre x post acc δ e ⟨a, fs, m, hf, hb, hl, rfl, rfl⟩
    simp only [↓We_var, ↓We_int, ↓We_str, ↓We_bl, ↓We_non, ↓We_gl, ↓We_dspc, ↓We_fs, ↓We_tup, ↓We_lst, ↓We_op1, ↓We_op2, ↓We_sm1, ↓We_slc, ↓We_isi, ↓We_and, ↓We_or, ↓We_one, ↓We_not, ↓We_ife, ↓We_chn, ↓We_pop, ↓We_call, ↓We_callk, ↓We_comp, ↓Wr_var, ↓Wr_int, ↓Wr_str, ↓Wr_bl, ↓Wr_non, ↓Wr_gl, ↓Wr_dspc, ↓Wr_fs, ↓Wr_tup, ↓Wr_lst, ↓Wr_op1, ↓Wr_op2, ↓Wr_sm1, ↓Wr_slc, ↓Wr_isi, ↓Wr_and, ↓Wr_or, ↓Wr_not, ↓Wr_ife, ↓Wr_chn, ↓Wr_pop, ↓Wr_call, ↓Wr_callk, ↓Wr_comp, ↓Ws_set, ↓Ws_unp, ↓Ws_unps, ↓Ws_app, ↓Ws_seti, ↓Ws_setf, ↓Ws_expr, ↓Ws_ife, ↓Ws_for, ↓Ws_while, ↓Ws_ret, ↓Ws_retv, ↓Ws_retn, ↓Ws_brk, ↓Ws_cont, ↓Ws_pass, ↓Wss_cons, ↓Wss_nil, ↓Wes_nil, ↓Wes_cons, ↓Wo_none, ↓Wo_some, ↓Was_nil, ↓Was_ev, ↓Was_pk, ↓Wcall_def, catA_nil, catA_cons, ↓Wsrc_seq, ↓Wsrc_rng1, ↓Wsrc_rng2, ↓Wsrc_zip, ↓seq_nx, ↓seq_rt, ↓seq_bk, ↓seq_ct, ↓seq_ex, ↓W1_some, ↓WJ_some, ↓W1_none, ↓WJ_none, ↓Wf_fz, ↓Wf_lst, ↓Wf_dct, ↓Wf_obj, ↓Wb_bl, ↓Wi_int, ↓Wif_true, ↓Wif_false, ↓Wv_fz, ↓Wv_ow, ↓Wv_owd, ↓Wv_owo, ↓Wsem_ok, ↓setR_fz, ↓setR_fr, ↓Wrv_some, ↓Wpk_some, ↓Wunp_fz, ↓Wunps_lst, ↓WisL_lst, ↓Wapp_ow, ↓Wapp_io, ↓Wseti_ow, ↓Wseti_io, ↓Wretv_fz, ↓Wretv_ow, ↓Wpop_io, ↓Wpop_ow, ↓Wturn_none, ↓Wturn_some, ↓accO_some, ↓accO_none, ↓res_val, ↓res_pk, ↓slotD_0, ↓slotD_s, W1_some, WJ_some, W1_none, WJ_none, Wf_fz, Wf_lst, Wf_dct, Wf_obj, Wb_bl, Wi_int, Wif_true, Wif_false, Wv_fz, Wv_ow, Wv_owd, Wv_owo, Wsem_ok, setR_fz, setR_fr, Wrv_some, Wpk_some, Wunp_fz, Wunps_lst, WisL_lst, Wapp_ow, Wapp_io, Wseti_ow, Wseti_io, Wretv_fz, Wretv_ow, Wpop_io, Wpop_ow, accO_some, accO_none, Int.reduceLT, Int.reduceLE, Nat.reduceLT, Nat.reduceLeDiff, Int.reduceToNat, Int.reduceAdd, Int.reduceSub, Int.reduceMul, Int.reduceNeg, decide_true, decide_false, Bool.or_true, Bool.true_or, Bool.or_false, Bool.false_or, Bool.and_true, Bool.true_and, Bool.and_false, Bool.false_and, Bool.not_true, Bool.not_false, and_true, true_and, Option.map_some, Option.map_none, Option.bind_some, Option.bind_none, List.set_cons_zero, List.set_cons_succ, k1_len_str, k1_len_tup, k1_len_lst, k1_len_frl, k1_abs, k1_neg, k1_int, k1_intb, k1_tuple_lst, k1_tuple_tup, k1_list_lst, k1_list_tup, k1_rev, k1_isN, k1_notN, k2_add, k2_add_str, k2_add_lst, k2_sub, k1_isT, k1_notT, k2_mul, k2_muls, k2_fdiv, k2_mod, k2_pow6, k2_pow18, k2_pow12, k2_lt, k2_le, k2_gt, k2_ge, k2_eq, k2_ne, k2_in, k2_notin, k2_idx, idx_0, idx_1, idx_2, idx_3, idt_0, idt_1, idt_2, idt_3, k2_max, slc_str, slc_lst, slc_frl, seq_lst, seq_tup, seq_str, turnE_nx, turnE_ct, turnE_rt, turnE_bk, wipeD, backW, freeT_nil, freeT_cons, freeT1_none, freeT1_fz, freeT1_fzs, lockI, lockD_n, lockD_s, openD_n, openD_s, bindT_1, bindT_2, bindM, size_le, List.foldl_cons, List.foldl_nil, List.all_cons, List.all_nil, List.getElem?_cons_zero, List.getElem?_cons_succ, Option.join_some, Option.join_none, List.zip_cons_cons, List.zip_nil_left, List.length_cons, List.length_nil, List.length_append, Nat.reduceAdd, Nat.reduceEqDiff, Bool.false_eq_true, if_true, if_false, ↓reduceIte, ite_true, ite_false, ki_int_int, ki_int_str, ki_int_bool, ki_int_list, ki_int_tuple, ki_int_dict, ki_bl_int, ki_bl_str, ki_bl_bool, ki_bl_list, ki_bl_tuple, ki_bl_dict, ki_str_int, ki_str_str, ki_str_bool, ki_str_list, ki_str_tuple, ki_str_dict, ki_lst_int, ki_lst_str, ki_lst_bool, ki_lst_list, ki_lst_tuple, ki_lst_dict, ki_frl_int, ki_frl_str, ki_frl_bool, ki_frl_list, ki_frl_tuple, ki_frl_dict, ki_tup_int, ki_tup_str, ki_tup_bool, ki_tup_list, ki_tup_tuple, ki_tup_dict, ki_dct_int, ki_dct_str, ki_dct_bool, ki_dct_list, ki_dct_tuple, ki_dct_dict, ki_non_int, ki_non_str, ki_non_bool, ki_non_list, ki_non_tuple, ki_non_dict, kis_nil, kis_t, kis_f, Z.argsOf, Z.argOf, Z.backTo, Z.outsOf, List.any_nil, List.any_cons]
    obtain ⟨u, fs, u_lt, hf, e_dr⟩ := draw_ok hf (n := 2) (by first | decide | omega); simp only [↓We_var, ↓We_int, ↓We_str, ↓We_bl, ↓We_non, ↓We_gl, ↓We_dspc, ↓We_fs, ↓We_tup, ↓We_lst, ↓We_op1, ↓We_op2, ↓We_sm1, ↓We_slc, ↓We_isi, ↓We_and, ↓We_or, ↓We_one, ↓We_not, ↓We_ife, ↓We_chn, ↓We_pop, ↓We_call, ↓We_callk, ↓We_comp, ↓Wr_var, ↓Wr_int, ↓Wr_str, ↓Wr_bl, ↓Wr_non, ↓Wr_gl, ↓Wr_dspc, ↓Wr_fs, ↓Wr_tup, ↓Wr_lst, ↓Wr_op1, ↓Wr_op2, ↓Wr_sm1, ↓Wr_slc, ↓Wr_isi, ↓Wr_and, ↓Wr_or, ↓Wr_not, ↓Wr_ife, ↓Wr_chn, ↓Wr_pop, ↓Wr_call, ↓Wr_callk, ↓Wr_comp, ↓Ws_set, ↓Ws_unp, ↓Ws_unps, ↓Ws_app, ↓Ws_seti, ↓Ws_setf, ↓Ws_expr, ↓Ws_ife, ↓Ws_for, ↓Ws_while, ↓Ws_ret, ↓Ws_retv, ↓Ws_retn, ↓Ws_brk, ↓Ws_cont, ↓Ws_pass, ↓Wss_cons, ↓Wss_nil, ↓Wes_nil, ↓Wes_cons, ↓Wo_none, ↓Wo_some, ↓Was_nil, ↓Was_ev, ↓Was_pk, ↓Wcall_def, catA_nil, catA_cons, ↓Wsrc_seq, ↓Wsrc_rng1, ↓Wsrc_rng2, ↓Wsrc_zip, ↓seq_nx, ↓seq_rt, ↓seq_bk, ↓seq_ct, ↓seq_ex, ↓W1_some, ↓WJ_some, ↓W1_none, ↓WJ_none, ↓Wf_fz, ↓Wf_lst, ↓Wf_dct, ↓Wf_obj, ↓Wb_bl, ↓Wi_int, ↓Wif_true, ↓Wif_false, ↓Wv_fz, ↓Wv_ow, ↓Wv_owd, ↓Wv_owo, ↓Wsem_ok, ↓setR_fz, ↓setR_fr, ↓Wrv_some, ↓Wpk_some, ↓Wunp_fz, ↓Wunps_lst, ↓WisL_lst, ↓Wapp_ow, ↓Wapp_io, ↓Wseti_ow, ↓Wseti_io, ↓Wretv_fz, ↓Wretv_ow, ↓Wpop_io, ↓Wpop_ow, ↓Wturn_none, ↓Wturn_some, ↓accO_some, ↓accO_none, ↓res_val, ↓res_pk, ↓slotD_0, ↓slotD_s, W1_some, WJ_some, W1_none, WJ_none, Wf_fz, Wf_lst, Wf_dct, Wf_obj, Wb_bl, Wi_int, Wif_true, Wif_false, Wv_fz, Wv_ow, Wv_owd, Wv_owo, Wsem_ok, setR_fz, setR_fr, Wrv_some, Wpk_some, Wunp_fz, Wunps_lst, WisL_lst, Wapp_ow, Wapp_io, Wseti_ow, Wseti_io, Wretv_fz, Wretv_ow, Wpop_io, Wpop_ow, accO_some, accO_none, Int.reduceLT, Int.reduceLE, Nat.reduceLT, Nat.reduceLeDiff, Int.reduceToNat, Int.reduceAdd, Int.reduceSub, Int.reduceMul, Int.reduceNeg, decide_true, decide_false, Bool.or_true, Bool.true_or, Bool.or_false, Bool.false_or, Bool.and_true, Bool.true_and, Bool.and_false, Bool.false_and, Bool.not_true, Bool.not_false, and_true, true_and, Option.map_some, Option.map_none, Option.bind_some, Option.bind_none, List.set_cons_zero, List.set_cons_succ, k1_len_str, k1_len_tup, k1_len_lst, k1_len_frl, k1_abs, k1_neg, k1_int, k1_intb, k1_tuple_lst, k1_tuple_tup, k1_list_lst, k1_list_tup, k1_rev, k1_isN, k1_notN, k2_add, k2_add_str, k2_add_lst, k2_sub, k1_isT, k1_notT, k2_mul, k2_muls, k2_fdiv, k2_mod, k2_pow6, k2_pow18, k2_pow12, k2_lt, k2_le, k2_gt, k2_ge, k2_eq, k2_ne, k2_in, k2_notin, k2_idx, idx_0, idx_1, idx_2, idx_3, idt_0, idt_1, idt_2, idt_3, k2_max, slc_str, slc_lst, slc_frl, seq_lst, seq_tup, seq_str, turnE_nx, turnE_ct, turnE_rt, turnE_bk, wipeD, backW, freeT_nil, freeT_cons, freeT1_none, freeT1_fz, freeT1_fzs, lockI, lockD_n, lockD_s, openD_n, openD_s, bindT_1, bindT_2, bindM, size_le, List.foldl_cons, List.foldl_nil, List.all_cons, List.all_nil, List.getElem?_cons_zero, List.getElem?_cons_succ, Option.join_some, Option.join_none, List.zip_cons_cons, List.zip_nil_left, List.length_cons, List.length_nil, List.length_append, Nat.reduceAdd, Nat.reduceEqDiff, Bool.false_eq_true, if_true, if_false, ↓reduceIte, ite_true, ite_false, ki_int_int, ki_int_str, ki_int_bool, ki_int_list, ki_int_tuple, ki_int_dict, ki_bl_int, ki_bl_str, ki_bl_bool, ki_bl_list, ki_bl_tuple, ki_bl_dict, ki_str_int, ki_str_str, ki_str_bool, ki_str_list, ki_str_tuple, ki_str_dict, ki_lst_int, ki_lst_str, ki_lst_bool, ki_lst_list, ki_lst_tuple, ki_lst_dict, ki_frl_int, ki_frl_str, ki_frl_bool, ki_frl_list, ki_frl_tuple, ki_frl_dict, ki_tup_int, ki_tup_str, ki_tup_bool, ki_tup_list, ki_tup_tuple, ki_tup_dict, ki_dct_int, ki_dct_str, ki_dct_bool, ki_dct_list, ki_dct_tuple, ki_dct_dict, ki_non_int, ki_non_str, ki_non_bool, ki_non_list, ki_non_tuple, ki_non_dict, kis_nil, kis_t, kis_f, Z.argsOf, Z.argOf, Z.backTo, Z.outsOf, List.any_nil, List.any_cons, e_dr]; clear e_dr
    obtain ⟨c, hc, e1⟩ := str_menu (m := [98, 102]) (v := u) (by decide) (by simp; omega)
    simp only [↓We_var, ↓We_int, ↓We_str, ↓We_bl, ↓We_non, ↓We_gl, ↓We_dspc, ↓We_fs, ↓We_tup, ↓We_lst, ↓We_op1, ↓We_op2, ↓We_sm1, ↓We_slc, ↓We_isi, ↓We_and, ↓We_or, ↓We_one, ↓We_not, ↓We_ife, ↓We_chn, ↓We_pop, ↓We_call, ↓We_callk, ↓We_comp, ↓Wr_var, ↓Wr_int, ↓Wr_str, ↓Wr_bl, ↓Wr_non, ↓Wr_gl, ↓Wr_dspc, ↓Wr_fs, ↓Wr_tup, ↓Wr_lst, ↓Wr_op1, ↓Wr_op2, ↓Wr_sm1, ↓Wr_slc, ↓Wr_isi, ↓Wr_and, ↓Wr_or, ↓Wr_not, ↓Wr_ife, ↓Wr_chn, ↓Wr_pop, ↓Wr_call, ↓Wr_callk, ↓Wr_comp, ↓Ws_set, ↓Ws_unp, ↓Ws_unps, ↓Ws_app, ↓Ws_seti, ↓Ws_setf, ↓Ws_expr, ↓Ws_ife, ↓Ws_for, ↓Ws_while, ↓Ws_ret, ↓Ws_retv, ↓Ws_retn, ↓Ws_brk, ↓Ws_cont, ↓Ws_pass, ↓Wss_cons, ↓Wss_nil, ↓Wes_nil, ↓Wes_cons, ↓Wo_none, ↓Wo_some, ↓Was_nil, ↓Was_ev, ↓Was_pk, ↓Wcall_def, catA_nil, catA_cons, ↓Wsrc_seq, ↓Wsrc_rng1, ↓Wsrc_rng2, ↓Wsrc_zip, ↓seq_nx, ↓seq_rt, ↓seq_bk, ↓seq_ct, ↓seq_ex, ↓W1_some, ↓WJ_some, ↓W1_none, ↓WJ_none, ↓Wf_fz, ↓Wf_lst, ↓Wf_dct, ↓Wf_obj, ↓Wb_bl, ↓Wi_int, ↓Wif_true, ↓Wif_false, ↓Wv_fz, ↓Wv_ow, ↓Wv_owd, ↓Wv_owo, ↓Wsem_ok, ↓setR_fz, ↓setR_fr, ↓Wrv_some, ↓Wpk_some, ↓Wunp_fz, ↓Wunps_lst, ↓WisL_lst, ↓Wapp_ow, ↓Wapp_io, ↓Wseti_ow, ↓Wseti_io, ↓Wretv_fz, ↓Wretv_ow, ↓Wpop_io, ↓Wpop_ow, ↓Wturn_none, ↓Wturn_some, ↓accO_some, ↓accO_none, ↓res_val, ↓res_pk, ↓slotD_0, ↓slotD_s, W1_some, WJ_some, W1_none, WJ_none, Wf_fz, Wf_lst, Wf_dct, Wf_obj, Wb_bl, Wi_int, Wif_true, Wif_false, Wv_fz, Wv_ow, Wv_owd, Wv_owo, Wsem_ok, setR_fz, setR_fr, Wrv_some, Wpk_some, Wunp_fz, Wunps_lst, WisL_lst, Wapp_ow, Wapp_io, Wseti_ow, Wseti_io, Wretv_fz, Wretv_ow, Wpop_io, Wpop_ow, accO_some, accO_none, Int.reduceLT, Int.reduceLE, Nat.reduceLT, Nat.reduceLeDiff, Int.reduceToNat, Int.reduceAdd, Int.reduceSub, Int.reduceMul, Int.reduceNeg, decide_true, decide_false, Bool.or_true, Bool.true_or, Bool.or_false, Bool.false_or, Bool.and_true, Bool.true_and, Bool.and_false, Bool.false_and, Bool.not_true, Bool.not_false, and_true, true_and, Option.map_some, Option.map_none, Option.bind_some, Option.bind_none, List.set_cons_zero, List.set_cons_succ, k1_len_str, k1_len_tup, k1_len_lst, k1_len_frl, k1_abs, k1_neg, k1_int, k1_intb, k1_tuple_lst, k1_tuple_tup, k1_list_lst, k1_list_tup, k1_rev, k1_isN, k1_notN, k2_add, k2_add_str, k2_add_lst, k2_sub, k1_isT, k1_notT, k2_mul, k2_muls, k2_fdiv, k2_mod, k2_pow6, k2_pow18, k2_pow12, k2_lt, k2_le, k2_gt, k2_ge, k2_eq, k2_ne, k2_in, k2_notin, k2_idx, idx_0, idx_1, idx_2, idx_3, idt_0, idt_1, idt_2, idt_3, k2_max, slc_str, slc_lst, slc_frl, seq_lst, seq_tup, seq_str, turnE_nx, turnE_ct, turnE_rt, turnE_bk, wipeD, backW, freeT_nil, freeT_cons, freeT1_none, freeT1_fz, freeT1_fzs, lockI, lockD_n, lockD_s, openD_n, openD_s, bindT_1, bindT_2, bindM, size_le, List.foldl_cons, List.foldl_nil, List.all_cons, List.all_nil, List.getElem?_cons_zero, List.getElem?_cons_succ, Option.join_some, Option.join_none, List.zip_cons_cons, List.zip_nil_left, List.length_cons, List.length_nil, List.length_append, Nat.reduceAdd, Nat.reduceEqDiff, Bool.false_eq_true, if_true, if_false, ↓reduceIte, ite_true, ite_false, ki_int_int, ki_int_str, ki_int_bool, ki_int_list, ki_int_tuple, ki_int_dict, ki_bl_int, ki_bl_str, ki_bl_bool, ki_bl_list, ki_bl_tuple, ki_bl_dict, ki_str_int, ki_str_str, ki_str_bool, ki_str_list, ki_str_tuple, ki_str_dict, ki_lst_int, ki_lst_str, ki_lst_bool, ki_lst_list, ki_lst_tuple, ki_lst_dict, ki_frl_int, ki_frl_str, ki_frl_bool, ki_frl_list, ki_frl_tuple, ki_frl_dict, ki_tup_int, ki_tup_str, ki_tup_bool, ki_tup_list, ki_tup_tuple, ki_tup_dict, ki_dct_int, ki_dct_str, ki_dct_bool, ki_dct_list, ki_dct_tuple, ki_dct_dict, ki_non_int, ki_non_str, ki_non_bool, ki_non_list, ki_non_tuple, ki_non_dict, kis_nil, kis_t, kis_f, Z.argsOf, Z.argOf, Z.backTo, Z.outsOf, List.any_nil, List.any_cons, e1]
    refine ⟨some _, fs, m ++ [c], hf, fun d hd => ?_, by simp [hl], by simp [accO], rfl⟩
    rcases List.mem_append.mp hd with h | h
    · exact hb d h
    · rw [List.mem_singleton.mp h]; simpa using hc
  · rintro acc δ ⟨a, fs, m, hf, hb, hl, rfl, rfl⟩
    have hl : m.length = v := by rw [hl]; simp [intsD]
    simp only [↓We_var, ↓We_int, ↓We_str, ↓We_bl, ↓We_non, ↓We_gl, ↓We_dspc, ↓We_fs, ↓We_tup, ↓We_lst, ↓We_op1, ↓We_op2, ↓We_sm1, ↓We_slc, ↓We_isi, ↓We_and, ↓We_or, ↓We_one, ↓We_not, ↓We_ife, ↓We_chn, ↓We_pop, ↓We_call, ↓We_callk, ↓We_comp, ↓Wr_var, ↓Wr_int, ↓Wr_str, ↓Wr_bl, ↓Wr_non, ↓Wr_gl, ↓Wr_dspc, ↓Wr_fs, ↓Wr_tup, ↓Wr_lst, ↓Wr_op1, ↓Wr_op2, ↓Wr_sm1, ↓Wr_slc, ↓Wr_isi, ↓Wr_and, ↓Wr_or, ↓Wr_not, ↓Wr_ife, ↓Wr_chn, ↓Wr_pop, ↓Wr_call, ↓Wr_callk, ↓Wr_comp, ↓Ws_set, ↓Ws_unp, ↓Ws_unps, ↓Ws_app, ↓Ws_seti, ↓Ws_setf, ↓Ws_expr, ↓Ws_ife, ↓Ws_for, ↓Ws_while, ↓Ws_ret, ↓Ws_retv, ↓Ws_retn, ↓Ws_brk, ↓Ws_cont, ↓Ws_pass, ↓Wss_cons, ↓Wss_nil, ↓Wes_nil, ↓Wes_cons, ↓Wo_none, ↓Wo_some, ↓Was_nil, ↓Was_ev, ↓Was_pk, ↓Wcall_def, catA_nil, catA_cons, ↓Wsrc_seq, ↓Wsrc_rng1, ↓Wsrc_rng2, ↓Wsrc_zip, ↓seq_nx, ↓seq_rt, ↓seq_bk, ↓seq_ct, ↓seq_ex, ↓W1_some, ↓WJ_some, ↓W1_none, ↓WJ_none, ↓Wf_fz, ↓Wf_lst, ↓Wf_dct, ↓Wf_obj, ↓Wb_bl, ↓Wi_int, ↓Wif_true, ↓Wif_false, ↓Wv_fz, ↓Wv_ow, ↓Wv_owd, ↓Wv_owo, ↓Wsem_ok, ↓setR_fz, ↓setR_fr, ↓Wrv_some, ↓Wpk_some, ↓Wunp_fz, ↓Wunps_lst, ↓WisL_lst, ↓Wapp_ow, ↓Wapp_io, ↓Wseti_ow, ↓Wseti_io, ↓Wretv_fz, ↓Wretv_ow, ↓Wpop_io, ↓Wpop_ow, ↓Wturn_none, ↓Wturn_some, ↓accO_some, ↓accO_none, ↓res_val, ↓res_pk, ↓slotD_0, ↓slotD_s, W1_some, WJ_some, W1_none, WJ_none, Wf_fz, Wf_lst, Wf_dct, Wf_obj, Wb_bl, Wi_int, Wif_true, Wif_false, Wv_fz, Wv_ow, Wv_owd, Wv_owo, Wsem_ok, setR_fz, setR_fr, Wrv_some, Wpk_some, Wunp_fz, Wunps_lst, WisL_lst, Wapp_ow, Wapp_io, Wseti_ow, Wseti_io, Wretv_fz, Wretv_ow, Wpop_io, Wpop_ow, accO_some, accO_none, Int.reduceLT, Int.reduceLE, Nat.reduceLT, Nat.reduceLeDiff, Int.reduceToNat, Int.reduceAdd, Int.reduceSub, Int.reduceMul, Int.reduceNeg, decide_true, decide_false, Bool.or_true, Bool.true_or, Bool.or_false, Bool.false_or, Bool.and_true, Bool.true_and, Bool.and_false, Bool.false_and, Bool.not_true, Bool.not_false, and_true, true_and, Option.map_some, Option.map_none, Option.bind_some, Option.bind_none, List.set_cons_zero, List.set_cons_succ, k1_len_str, k1_len_tup, k1_len_lst, k1_len_frl, k1_abs, k1_neg, k1_int, k1_intb, k1_tuple_lst, k1_tuple_tup, k1_list_lst, k1_list_tup, k1_rev, k1_isN, k1_notN, k2_add, k2_add_str, k2_add_lst, k2_sub, k1_isT, k1_notT, k2_mul, k2_muls, k2_fdiv, k2_mod, k2_pow6, k2_pow18, k2_pow12, k2_lt, k2_le, k2_gt, k2_ge, k2_eq, k2_ne, k2_in, k2_notin, k2_idx, idx_0, idx_1, idx_2, idx_3, idt_0, idt_1, idt_2, idt_3, k2_max, slc_str, slc_lst, slc_frl, seq_lst, seq_tup, seq_str, turnE_nx, turnE_ct, turnE_rt, turnE_bk, wipeD, backW, freeT_nil, freeT_cons, freeT1_none, freeT1_fz, freeT1_fzs, lockI, lockD_n, lockD_s, openD_n, openD_s, bindT_1, bindT_2, bindM, size_le, List.foldl_cons, List.foldl_nil, List.all_cons, List.all_nil, List.getElem?_cons_zero, List.getElem?_cons_succ, Option.join_some, Option.join_none, List.zip_cons_cons, List.zip_nil_left, List.length_cons, List.length_nil, List.length_append, Nat.reduceAdd, Nat.reduceEqDiff, Bool.false_eq_true, if_true, if_false, ↓reduceIte, ite_true, ite_false, ki_int_int, ki_int_str, ki_int_bool, ki_int_list, ki_int_tuple, ki_int_dict, ki_bl_int, ki_bl_str, ki_bl_bool, ki_bl_list, ki_bl_tuple, ki_bl_dict, ki_str_int, ki_str_str, ki_str_bool, ki_str_list, ki_str_tuple, ki_str_dict, ki_lst_int, ki_lst_str, ki_lst_bool, ki_lst_list, ki_lst_tuple, ki_lst_dict, ki_frl_int, ki_frl_str, ki_frl_bool, ki_frl_list, ki_frl_tuple, ki_frl_dict, ki_tup_int, ki_tup_str, ki_tup_bool, ki_tup_list, ki_tup_tuple, ki_tup_dict, ki_dct_int, ki_dct_str, ki_dct_bool, ki_dct_list, ki_dct_tuple, ki_dct_dict, ki_non_int, ki_non_str, ki_non_bool, ki_non_list, ki_non_tuple, ki_non_dict, kis_nil, kis_t, kis_f, Z.argsOf, Z.argOf, Z.backTo, Z.outsOf, List.any_nil, List.any_cons, join_chars (sz (show m.length ≤ 1000 by omega))]
    refine hrt _ _ ?_
    simp only [↓We_var, ↓We_int, ↓We_str, ↓We_bl, ↓We_non, ↓We_gl, ↓We_dspc, ↓We_fs, ↓We_tup, ↓We_lst, ↓We_op1, ↓We_op2, ↓We_sm1, ↓We_slc, ↓We_isi, ↓We_and, ↓We_or, ↓We_one, ↓We_not, ↓We_ife, ↓We_chn, ↓We_pop, ↓We_call, ↓We_callk, ↓We_comp, ↓Wr_var, ↓Wr_int, ↓Wr_str, ↓Wr_bl, ↓Wr_non, ↓Wr_gl, ↓Wr_dspc, ↓Wr_fs, ↓Wr_tup, ↓Wr_lst, ↓Wr_op1, ↓Wr_op2, ↓Wr_sm1, ↓Wr_slc, ↓Wr_isi, ↓Wr_and, ↓Wr_or, ↓Wr_not, ↓Wr_ife, ↓Wr_chn, ↓Wr_pop, ↓Wr_call, ↓Wr_callk, ↓Wr_comp, ↓Ws_set, ↓Ws_unp, ↓Ws_unps, ↓Ws_app, ↓Ws_seti, ↓Ws_setf, ↓Ws_expr, ↓Ws_ife, ↓Ws_for, ↓Ws_while, ↓Ws_ret, ↓Ws_retv, ↓Ws_retn, ↓Ws_brk, ↓Ws_cont, ↓Ws_pass, ↓Wss_cons, ↓Wss_nil, ↓Wes_nil, ↓Wes_cons, ↓Wo_none, ↓Wo_some, ↓Was_nil, ↓Was_ev, ↓Was_pk, ↓Wcall_def, catA_nil, catA_cons, ↓Wsrc_seq, ↓Wsrc_rng1, ↓Wsrc_rng2, ↓Wsrc_zip, ↓seq_nx, ↓seq_rt, ↓seq_bk, ↓seq_ct, ↓seq_ex, ↓W1_some, ↓WJ_some, ↓W1_none, ↓WJ_none, ↓Wf_fz, ↓Wf_lst, ↓Wf_dct, ↓Wf_obj, ↓Wb_bl, ↓Wi_int, ↓Wif_true, ↓Wif_false, ↓Wv_fz, ↓Wv_ow, ↓Wv_owd, ↓Wv_owo, ↓Wsem_ok, ↓setR_fz, ↓setR_fr, ↓Wrv_some, ↓Wpk_some, ↓Wunp_fz, ↓Wunps_lst, ↓WisL_lst, ↓Wapp_ow, ↓Wapp_io, ↓Wseti_ow, ↓Wseti_io, ↓Wretv_fz, ↓Wretv_ow, ↓Wpop_io, ↓Wpop_ow, ↓Wturn_none, ↓Wturn_some, ↓accO_some, ↓accO_none, ↓res_val, ↓res_pk, ↓slotD_0, ↓slotD_s, W1_some, WJ_some, W1_none, WJ_none, Wf_fz, Wf_lst, Wf_dct, Wf_obj, Wb_bl, Wi_int, Wif_true, Wif_false, Wv_fz, Wv_ow, Wv_owd, Wv_owo, Wsem_ok, setR_fz, setR_fr, Wrv_some, Wpk_some, Wunp_fz, Wunps_lst, WisL_lst, Wapp_ow, Wapp_io, Wseti_ow, Wseti_io, Wretv_fz, Wretv_ow, Wpop_io, Wpop_ow, accO_some, accO_none, Int.reduceLT, Int.reduceLE, Nat.reduceLT, Nat.reduceLeDiff, Int.reduceToNat, Int.reduceAdd, Int.reduceSub, Int.reduceMul, Int.reduceNeg, decide_true, decide_false, Bool.or_true, Bool.true_or, Bool.or_false, Bool.false_or, Bool.and_true, Bool.true_and, Bool.and_false, Bool.false_and, Bool.not_true, Bool.not_false, and_true, true_and, Option.map_some, Option.map_none, Option.bind_some, Option.bind_none, List.set_cons_zero, List.set_cons_succ, k1_len_str, k1_len_tup, k1_len_lst, k1_len_frl, k1_abs, k1_neg, k1_int, k1_intb, k1_tuple_lst, k1_tuple_tup, k1_list_lst, k1_list_tup, k1_rev, k1_isN, k1_notN, k2_add, k2_add_str, k2_add_lst, k2_sub, k1_isT, k1_notT, k2_mul, k2_muls, k2_fdiv, k2_mod, k2_pow6, k2_pow18, k2_pow12, k2_lt, k2_le, k2_gt, k2_ge, k2_eq, k2_ne, k2_in, k2_notin, k2_idx, idx_0, idx_1, idx_2, idx_3, idt_0, idt_1, idt_2, idt_3, k2_max, slc_str, slc_lst, slc_frl, seq_lst, seq_tup, seq_str, turnE_nx, turnE_ct, turnE_rt, turnE_bk, wipeD, backW, freeT_nil, freeT_cons, freeT1_none, freeT1_fz, freeT1_fzs, lockI, lockD_n, lockD_s, openD_n, openD_s, bindT_1, bindT_2, bindM, size_le, List.foldl_cons, List.foldl_nil, List.all_cons, List.all_nil, List.getElem?_cons_zero, List.getElem?_cons_succ, Option.join_some, Option.join_none, List.zip_cons_cons, List.zip_nil_left, List.length_cons, List.length_nil, List.length_append, Nat.reduceAdd, Nat.reduceEqDiff, Bool.false_eq_true, if_true, if_false, ↓reduceIte, ite_true, ite_false, ki_int_int, ki_int_str, ki_int_bool, ki_int_list, ki_int_tuple, ki_int_dict, ki_bl_int, ki_bl_str, ki_bl_bool, ki_bl_list, ki_bl_tuple, ki_bl_dict, ki_str_int, ki_str_str, ki_str_bool, ki_str_list, ki_str_tuple, ki_str_dict, ki_lst_int, ki_lst_str, ki_lst_bool, ki_lst_list, ki_lst_tuple, ki_lst_dict, ki_frl_int, ki_frl_str, ki_frl_bool, ki_frl_list, ki_frl_tuple, ki_frl_dict, ki_tup_int, ki_tup_str, ki_tup_bool, ki_tup_list, ki_tup_tuple, ki_tup_dict, ki_dct_int, ki_dct_str, ki_dct_bool, ki_dct_list, ki_dct_tuple, ki_dct_dict, ki_non_int, ki_non_str, ki_non_bool, ki_non_list, ki_non_tuple, ki_non_dict, kis_nil, kis_t, kis_f, Z.argsOf, Z.argOf, Z.backTo, Z.outsOf, List.any_nil, List.any_cons]
    exact ⟨m, fs, hb, by omega, hf, rfl, rfl⟩
theorem side_ok {t : List Nat} (ht : Ok t) : ∃ k : Nat, k ≤ t.length ∧ (∀ j, List.replicate j 64 <:+: t → j ≤ k) ∧ F_law_side.sem [(.fz, .str t)] = .ok (.fz (.int k)) [.str t] := by
  rw [F_law_side_sem]
  suffices ∃ r outs, runF 1 4 B_law_side [(.fz, .str t)] = .ok r outs ∧ ∃ k : Nat, k ≤ t.length ∧ (∀ j, List.replicate j 64 <:+: t → j ≤ k) ∧ r = .fz (.int k) ∧ outs = [.str t] by
    obtain ⟨r, outs, e, k, h1, h2, rfl, rfl⟩ := this
    exact ⟨k, h1, h2, e⟩
  refine runF_to (np := 1) _ rfl fun En hrt hnx => ?_; simp only [List.map_cons, List.map_nil, List.replicate, Nat.reduceSub, List.replicate_zero, List.cons_append, List.nil_append, B_law_side, T_law_side_0_0]
  simp only [↓We_var, ↓We_int, ↓We_str, ↓We_bl, ↓We_non, ↓We_gl, ↓We_dspc, ↓We_fs, ↓We_tup, ↓We_lst, ↓We_op1, ↓We_op2, ↓We_sm1, ↓We_slc, ↓We_isi, ↓We_and, ↓We_or, ↓We_one, ↓We_not, ↓We_ife, ↓We_chn, ↓We_pop, ↓We_call, ↓We_callk, ↓We_comp, ↓Wr_var, ↓Wr_int, ↓Wr_str, ↓Wr_bl, ↓Wr_non, ↓Wr_gl, ↓Wr_dspc, ↓Wr_fs, ↓Wr_tup, ↓Wr_lst, ↓Wr_op1, ↓Wr_op2, ↓Wr_sm1, ↓Wr_slc, ↓Wr_isi, ↓Wr_and, ↓Wr_or, ↓Wr_not, ↓Wr_ife, ↓Wr_chn, ↓Wr_pop, ↓Wr_call, ↓Wr_callk, ↓Wr_comp, ↓Ws_set, ↓Ws_unp, ↓Ws_unps, ↓Ws_app, ↓Ws_seti, ↓Ws_setf, ↓Ws_expr, ↓Ws_ife, ↓Ws_for, ↓Ws_while, ↓Ws_ret, ↓Ws_retv, ↓Ws_retn, ↓Ws_brk, ↓Ws_cont, ↓Ws_pass, ↓Wss_cons, ↓Wss_nil, ↓Wes_nil, ↓Wes_cons, ↓Wo_none, ↓Wo_some, ↓Was_nil, ↓Was_ev, ↓Was_pk, ↓Wcall_def, catA_nil, catA_cons, ↓Wsrc_seq, ↓Wsrc_rng1, ↓Wsrc_rng2, ↓Wsrc_zip, ↓seq_nx, ↓seq_rt, ↓seq_bk, ↓seq_ct, ↓seq_ex, ↓W1_some, ↓WJ_some, ↓W1_none, ↓WJ_none, ↓Wf_fz, ↓Wf_lst, ↓Wf_dct, ↓Wf_obj, ↓Wb_bl, ↓Wi_int, ↓Wif_true, ↓Wif_false, ↓Wv_fz, ↓Wv_ow, ↓Wv_owd, ↓Wv_owo, ↓Wsem_ok, ↓setR_fz, ↓setR_fr, ↓Wrv_some, ↓Wpk_some, ↓Wunp_fz, ↓Wunps_lst, ↓WisL_lst, ↓Wapp_ow, ↓Wapp_io, ↓Wseti_ow, ↓Wseti_io, ↓Wretv_fz, ↓Wretv_ow, ↓Wpop_io, ↓Wpop_ow, ↓Wturn_none, ↓Wturn_some, ↓accO_some, ↓accO_none, ↓res_val, ↓res_pk, ↓slotD_0, ↓slotD_s, W1_some, WJ_some, W1_none, WJ_none, Wf_fz, Wf_lst, Wf_dct, Wf_obj, Wb_bl, Wi_int, Wif_true, Wif_false, Wv_fz, Wv_ow, Wv_owd, Wv_owo, Wsem_ok, setR_fz, setR_fr, Wrv_some, Wpk_some, Wunp_fz, Wunps_lst, WisL_lst, Wapp_ow, Wapp_io, Wseti_ow, Wseti_io, Wretv_fz, Wretv_ow, Wpop_io, Wpop_ow, accO_some, accO_none, Int.reduceLT, Int.reduceLE, Nat.reduceLT, Nat.reduceLeDiff, Int.reduceToNat, Int.reduceAdd, Int.reduceSub, Int.reduceMul, Int.reduceNeg, decide_true, decide_false, Bool.or_true, Bool.true_or, Bool.or_false, Bool.false_or, Bool.and_true, Bool.true_and, Bool.and_false, Bool.false_and, Bool.not_true, Bool.not_false, and_true, true_and, Option.map_some, Option.map_none, Option.bind_some, Option.bind_none, List.set_cons_zero, List.set_cons_succ, k1_len_str, k1_len_tup, k1_len_lst, k1_len_frl, k1_abs, k1_neg, k1_int, k1_intb, k1_tuple_lst, k1_tuple_tup, k1_list_lst, k1_list_tup, k1_rev, k1_isN, k1_notN, k2_add, k2_add_str, k2_add_lst, k2_sub, k1_isT, k1_notT, k2_mul, k2_muls, k2_fdiv, k2_mod, k2_pow6, k2_pow18, k2_pow12, k2_lt, k2_le, k2_gt, k2_ge, k2_eq, k2_ne, k2_in, k2_notin, k2_idx, idx_0, idx_1, idx_2, idx_3, idt_0, idt_1, idt_2, idt_3, k2_max, slc_str, slc_lst, slc_frl, seq_lst, seq_tup, seq_str, turnE_nx, turnE_ct, turnE_rt, turnE_bk, wipeD, backW, freeT_nil, freeT_cons, freeT1_none, freeT1_fz, freeT1_fzs, lockI, lockD_n, lockD_s, openD_n, openD_s, bindT_1, bindT_2, bindM, size_le, List.foldl_cons, List.foldl_nil, List.all_cons, List.all_nil, List.getElem?_cons_zero, List.getElem?_cons_succ, Option.join_some, Option.join_none, List.zip_cons_cons, List.zip_nil_left, List.length_cons, List.length_nil, List.length_append, Nat.reduceAdd, Nat.reduceEqDiff, Bool.false_eq_true, if_true, if_false, ↓reduceIte, ite_true, ite_false, ki_int_int, ki_int_str, ki_int_bool, ki_int_list, ki_int_tuple, ki_int_dict, ki_bl_int, ki_bl_str, ki_bl_bool, ki_bl_list, ki_bl_tuple, ki_bl_dict, ki_str_int, ki_str_str, ki_str_bool, ki_str_list, ki_str_tuple, ki_str_dict, ki_lst_int, ki_lst_str, ki_lst_bool, ki_lst_list, ki_lst_tuple, ki_lst_dict, ki_frl_int, ki_frl_str, ki_frl_bool, ki_frl_list, ki_frl_tuple, ki_frl_dict, ki_tup_int, ki_tup_str, ki_tup_bool, ki_tup_list, ki_tup_tuple, ki_tup_dict, ki_dct_int, ki_dct_str, ki_dct_bool, ki_dct_list, ki_dct_tuple, ki_dct_dict, ki_non_int, ki_non_str, ki_non_bool, ki_non_list, ki_non_tuple, ki_non_dict, kis_nil, kis_t, kis_f, Z.argsOf, Z.argOf, Z.backTo, Z.outsOf, List.any_nil, List.any_cons, T_law_side_0_1, T_law_side_0_2]
  refine Wfor.map chr_inj (fun p δ => ∃ (a : Option D) (k r : Nat), k ≤ p.length ∧ r ≤ k ∧ (∀ j, List.replicate j 64 <:+: p → j ≤ k) ∧ (∀ j, List.replicate j 64 <:+ p → j ≤ r) ∧ δ = [some (.fz, .str t), some (.fz, .int k), some (.fz, .int r), fzs a]) ⟨none, 0, 0, Nat.le_refl _, Nat.le_refl _, ?_, ?_, rfl⟩ ?_ ?_
  · intro j h; have := h.length_le; simpa using this
  · intro j h; have := h.length_le; simpa using this
  · rintro p c q δ e ⟨a, k, r, h1, h2, h3, h4, rfl⟩
    have hc : ∀ d ∈ [c], d < 1114112 := fun d hd => ht.1 d (by rw [List.mem_singleton.mp hd, e]; simp)
    simp only [↓We_var, ↓We_int, ↓We_str, ↓We_bl, ↓We_non, ↓We_gl, ↓We_dspc, ↓We_fs, ↓We_tup, ↓We_lst, ↓We_op1, ↓We_op2, ↓We_sm1, ↓We_slc, ↓We_isi, ↓We_and, ↓We_or, ↓We_one, ↓We_not, ↓We_ife, ↓We_chn, ↓We_pop, ↓We_call, ↓We_callk, ↓We_comp, ↓Wr_var, ↓Wr_int, ↓Wr_str, ↓Wr_bl, ↓Wr_non, ↓Wr_gl, ↓Wr_dspc, ↓Wr_fs, ↓Wr_tup, ↓Wr_lst, ↓Wr_op1, ↓Wr_op2, ↓Wr_sm1, ↓Wr_slc, ↓Wr_isi, ↓Wr_and, ↓Wr_or, ↓Wr_not, ↓Wr_ife, ↓Wr_chn, ↓Wr_pop, ↓Wr_call, ↓Wr_callk, ↓Wr_comp, ↓Ws_set, ↓Ws_unp, ↓Ws_unps, ↓Ws_app, ↓Ws_seti, ↓Ws_setf, ↓Ws_expr, ↓Ws_ife, ↓Ws_for, ↓Ws_while, ↓Ws_ret, ↓Ws_retv, ↓Ws_retn, ↓Ws_brk, ↓Ws_cont, ↓Ws_pass, ↓Wss_cons, ↓Wss_nil, ↓Wes_nil, ↓Wes_cons, ↓Wo_none, ↓Wo_some, ↓Was_nil, ↓Was_ev, ↓Was_pk, ↓Wcall_def, catA_nil, catA_cons, ↓Wsrc_seq, ↓Wsrc_rng1, ↓Wsrc_rng2, ↓Wsrc_zip, ↓seq_nx, ↓seq_rt, ↓seq_bk, ↓seq_ct, ↓seq_ex, ↓W1_some, ↓WJ_some, ↓W1_none, ↓WJ_none, ↓Wf_fz, ↓Wf_lst, ↓Wf_dct, ↓Wf_obj, ↓Wb_bl, ↓Wi_int, ↓Wif_true, ↓Wif_false, ↓Wv_fz, ↓Wv_ow, ↓Wv_owd, ↓Wv_owo, ↓Wsem_ok, ↓setR_fz, ↓setR_fr, ↓Wrv_some, ↓Wpk_some, ↓Wunp_fz, ↓Wunps_lst, ↓WisL_lst, ↓Wapp_ow, ↓Wapp_io, ↓Wseti_ow, ↓Wseti_io, ↓Wretv_fz, ↓Wretv_ow, ↓Wpop_io, ↓Wpop_ow, ↓Wturn_none, ↓Wturn_some, ↓accO_some, ↓accO_none, ↓res_val, ↓res_pk, ↓slotD_0, ↓slotD_s, W1_some, WJ_some, W1_none, WJ_none, Wf_fz, Wf_lst, Wf_dct, Wf_obj, Wb_bl, Wi_int, Wif_true, Wif_false, Wv_fz, Wv_ow, Wv_owd, Wv_owo, Wsem_ok, setR_fz, setR_fr, Wrv_some, Wpk_some, Wunp_fz, Wunps_lst, WisL_lst, Wapp_ow, Wapp_io, Wseti_ow, Wseti_io, Wretv_fz, Wretv_ow, Wpop_io, Wpop_ow, accO_some, accO_none, Int.reduceLT, Int.reduceLE, Nat.reduceLT, Nat.reduceLeDiff, Int.reduceToNat, Int.reduceAdd, Int.reduceSub, Int.reduceMul, Int.reduceNeg, decide_true, decide_false, Bool.or_true, Bool.true_or, Bool.or_false, Bool.false_or, Bool.and_true, Bool.true_and, Bool.and_false, Bool.false_and, Bool.not_true, Bool.not_false, and_true, true_and, Option.map_some, Option.map_none, Option.bind_some, Option.bind_none, List.set_cons_zero, List.set_cons_succ, k1_len_str, k1_len_tup, k1_len_lst, k1_len_frl, k1_abs, k1_neg, k1_int, k1_intb, k1_tuple_lst, k1_tuple_tup, k1_list_lst, k1_list_tup, k1_rev, k1_isN, k1_notN, k2_add, k2_add_str, k2_add_lst, k2_sub, k1_isT, k1_notT, k2_mul, k2_muls, k2_fdiv, k2_mod, k2_pow6, k2_pow18, k2_pow12, k2_lt, k2_le, k2_gt, k2_ge, k2_eq, k2_ne, k2_in, k2_notin, k2_idx, idx_0, idx_1, idx_2, idx_3, idt_0, idt_1, idt_2, idt_3, k2_max, slc_str, slc_lst, slc_frl, seq_lst, seq_tup, seq_str, turnE_nx, turnE_ct, turnE_rt, turnE_bk, wipeD, backW, freeT_nil, freeT_cons, freeT1_none, freeT1_fz, freeT1_fzs, lockI, lockD_n, lockD_s, openD_n, openD_s, bindT_1, bindT_2, bindM, size_le, List.foldl_cons, List.foldl_nil, List.all_cons, List.all_nil, List.getElem?_cons_zero, List.getElem?_cons_succ, Option.join_some, Option.join_none, List.zip_cons_cons, List.zip_nil_left, List.length_cons, List.length_nil, List.length_append, Nat.reduceAdd, Nat.reduceEqDiff, Bool.false_eq_true, if_true, if_false, ↓reduceIte, ite_true, ite_false, ki_int_int, ki_int_str, ki_int_bool, ki_int_list, ki_int_tuple, ki_int_dict, ki_bl_int, ki_bl_str, ki_bl_bool, ki_bl_list, ki_bl_tuple, ki_bl_dict, ki_str_int, ki_str_str, ki_str_bool, ki_str_list, ki_str_tuple, ki_str_dict, ki_lst_int, ki_lst_str, ki_lst_bool, ki_lst_list, ki_lst_tuple, ki_lst_dict, ki_frl_int, ki_frl_str, ki_frl_bool, ki_frl_list, ki_frl_tuple, ki_frl_dict, ki_tup_int, ki_tup_str, ki_tup_bool, ki_tup_list, ki_tup_tuple, ki_tup_dict, ki_dct_int, ki_dct_str, ki_dct_bool, ki_dct_list, ki_dct_tuple, ki_dct_dict, ki_non_int, ki_non_str, ki_non_bool, ki_non_list, ki_non_tuple, ki_non_dict, kis_nil, kis_t, kis_f, Z.argsOf, Z.argOf, Z.backTo, Z.outsOf, List.any_nil, List.any_cons, T_law_side_1_0, eqD_str hc (show ∀ d ∈ [64], d < 1114112 by simp)]
    -- the new run
    have suf : ∀ r' : Nat, (c = 64 → r' = r + 1) → ∀ j, List.replicate j 64 <:+ p ++ [c] → j ≤ r' := fun r' hr j hj => by
      cases j with
      | zero => omega
      | succ j =>
        rw [List.replicate_succ'] at hj
        rcases List.suffix_concat_iff.mp hj with h | ⟨t, h, h'⟩
        · exact absurd h (by simp)
        · have := (List.append_inj' h rfl)
          obtain ⟨rfl, h6⟩ := this
          have hc' : c = 64 := by simpa using h6.symm
          have := h4 j h'
          have := hr hc'
          omega
    have inf : ∀ r' k' : Nat, (c = 64 → r' = r + 1) → k ≤ k' → r' ≤ k' → ∀ j, List.replicate j 64 <:+: p ++ [c] → j ≤ k' := fun r' k' hr h5 h6 j hj => by
      rcases List.infix_concat_iff.mp hj with h | h
      · have := suf r' hr j h; omega
      · have := h3 j h; omega
    refine ⟨fun hd => ?_, fun hd => ?_⟩
    · have hd : c = 64 := by simpa using hd
      simp only [↓We_var, ↓We_int, ↓We_str, ↓We_bl, ↓We_non, ↓We_gl, ↓We_dspc, ↓We_fs, ↓We_tup, ↓We_lst, ↓We_op1, ↓We_op2, ↓We_sm1, ↓We_slc, ↓We_isi, ↓We_and, ↓We_or, ↓We_one, ↓We_not, ↓We_ife, ↓We_chn, ↓We_pop, ↓We_call, ↓We_callk, ↓We_comp, ↓Wr_var, ↓Wr_int, ↓Wr_str, ↓Wr_bl, ↓Wr_non, ↓Wr_gl, ↓Wr_dspc, ↓Wr_fs, ↓Wr_tup, ↓Wr_lst, ↓Wr_op1, ↓Wr_op2, ↓Wr_sm1, ↓Wr_slc, ↓Wr_isi, ↓Wr_and, ↓Wr_or, ↓Wr_not, ↓Wr_ife, ↓Wr_chn, ↓Wr_pop, ↓Wr_call, ↓Wr_callk, ↓Wr_comp, ↓Ws_set, ↓Ws_unp, ↓Ws_unps, ↓Ws_app, ↓Ws_seti, ↓Ws_setf, ↓Ws_expr, ↓Ws_ife, ↓Ws_for, ↓Ws_while, ↓Ws_ret, ↓Ws_retv, ↓Ws_retn, ↓Ws_brk, ↓Ws_cont, ↓Ws_pass, ↓Wss_cons, ↓Wss_nil, ↓Wes_nil, ↓Wes_cons, ↓Wo_none, ↓Wo_some, ↓Was_nil, ↓Was_ev, ↓Was_pk, ↓Wcall_def, catA_nil, catA_cons, ↓Wsrc_seq, ↓Wsrc_rng1, ↓Wsrc_rng2, ↓Wsrc_zip, ↓seq_nx, ↓seq_rt, ↓seq_bk, ↓seq_ct, ↓seq_ex, ↓W1_some, ↓WJ_some, ↓W1_none, ↓WJ_none, ↓Wf_fz, ↓Wf_lst, ↓Wf_dct, ↓Wf_obj, ↓Wb_bl, ↓Wi_int, ↓Wif_true, ↓Wif_false, ↓Wv_fz, ↓Wv_ow, ↓Wv_owd, ↓Wv_owo, ↓Wsem_ok, ↓setR_fz, ↓setR_fr, ↓Wrv_some, ↓Wpk_some, ↓Wunp_fz, ↓Wunps_lst, ↓WisL_lst, ↓Wapp_ow, ↓Wapp_io, ↓Wseti_ow, ↓Wseti_io, ↓Wretv_fz, ↓Wretv_ow, ↓Wpop_io, ↓Wpop_ow, ↓Wturn_none, ↓Wturn_some, ↓accO_some, ↓accO_none, ↓res_val, ↓res_pk, ↓slotD_0, ↓slotD_s, W1_some, WJ_some, W1_none, WJ_none, Wf_fz, Wf_lst, Wf_dct, Wf_obj, Wb_bl, Wi_int, Wif_true, Wif_false, Wv_fz, Wv_ow, Wv_owd, Wv_owo, Wsem_ok, setR_fz, setR_fr, Wrv_some, Wpk_some, Wunp_fz, Wunps_lst, WisL_lst, Wapp_ow, Wapp_io, Wseti_ow, Wseti_io, Wretv_fz, Wretv_ow, Wpop_io, Wpop_ow, accO_some, accO_none, Int.reduceLT, Int.reduceLE, Nat.reduceLT, Nat.reduceLeDiff, Int.reduceToNat, Int.reduceAdd, Int.reduceSub, Int.reduceMul, Int.reduceNeg, decide_true, decide_false, Bool.or_true, Bool.true_or, Bool.or_false, Bool.false_or, Bool.and_true, Bool.true_and, Bool.and_false, Bool.false_and, Bool.not_true, Bool.not_false, and_true, true_and, Option.map_some, Option.map_none, Option.bind_some, Option.bind_none, List.set_cons_zero, List.set_cons_succ, k1_len_str, k1_len_tup, k1_len_lst, k1_len_frl, k1_abs, k1_neg, k1_int, k1_intb, k1_tuple_lst, k1_tuple_tup, k1_list_lst, k1_list_tup, k1_rev, k1_isN, k1_notN, k2_add, k2_add_str, k2_add_lst, k2_sub, k1_isT, k1_notT, k2_mul, k2_muls, k2_fdiv, k2_mod, k2_pow6, k2_pow18, k2_pow12, k2_lt, k2_le, k2_gt, k2_ge, k2_eq, k2_ne, k2_in, k2_notin, k2_idx, idx_0, idx_1, idx_2, idx_3, idt_0, idt_1, idt_2, idt_3, k2_max, slc_str, slc_lst, slc_frl, seq_lst, seq_tup, seq_str, turnE_nx, turnE_ct, turnE_rt, turnE_bk, wipeD, backW, freeT_nil, freeT_cons, freeT1_none, freeT1_fz, freeT1_fzs, lockI, lockD_n, lockD_s, openD_n, openD_s, bindT_1, bindT_2, bindM, size_le, List.foldl_cons, List.foldl_nil, List.all_cons, List.all_nil, List.getElem?_cons_zero, List.getElem?_cons_succ, Option.join_some, Option.join_none, List.zip_cons_cons, List.zip_nil_left, List.length_cons, List.length_nil, List.length_append, Nat.reduceAdd, Nat.reduceEqDiff, Bool.false_eq_true, if_true, if_false, ↓reduceIte, ite_true, ite_false, ki_int_int, ki_int_str, ki_int_bool, ki_int_list, ki_int_tuple, ki_int_dict, ki_bl_int, ki_bl_str, ki_bl_bool, ki_bl_list, ki_bl_tuple, ki_bl_dict, ki_str_int, ki_str_str, ki_str_bool, ki_str_list, ki_str_tuple, ki_str_dict, ki_lst_int, ki_lst_str, ki_lst_bool, ki_lst_list, ki_lst_tuple, ki_lst_dict, ki_frl_int, ki_frl_str, ki_frl_bool, ki_frl_list, ki_frl_tuple, ki_frl_dict, ki_tup_int, ki_tup_str, ki_tup_bool, ki_tup_list, ki_tup_tuple, ki_tup_dict, ki_dct_int, ki_dct_str, ki_dct_bool, ki_dct_list, ki_dct_tuple, ki_dct_dict, ki_non_int, ki_non_str, ki_non_bool, ki_non_list, ki_non_tuple, ki_non_dict, kis_nil, kis_t, kis_f, Z.argsOf, Z.argOf, Z.backTo, Z.outsOf, List.any_nil, List.any_cons, T_law_side_1_1]
      by_cases h : (r : Int) + 1 > k
      · rw [if_pos h]
        exact ⟨some _, r + 1, r + 1, by first | omega | (simp; omega), Nat.le_refl _, inf (r + 1) (r + 1) (fun _ => rfl) (by omega) (Nat.le_refl _), suf _ fun _ => rfl, rfl⟩
      · rw [if_neg h]
        exact ⟨some _, k, r + 1, by first | omega | (simp; omega), by omega, inf (r + 1) k (fun _ => rfl) (by omega) (by omega), suf _ fun _ => rfl, rfl⟩
    · have hd : c ≠ 64 := by simpa using hd
      simp only [↓We_var, ↓We_int, ↓We_str, ↓We_bl, ↓We_non, ↓We_gl, ↓We_dspc, ↓We_fs, ↓We_tup, ↓We_lst, ↓We_op1, ↓We_op2, ↓We_sm1, ↓We_slc, ↓We_isi, ↓We_and, ↓We_or, ↓We_one, ↓We_not, ↓We_ife, ↓We_chn, ↓We_pop, ↓We_call, ↓We_callk, ↓We_comp, ↓Wr_var, ↓Wr_int, ↓Wr_str, ↓Wr_bl, ↓Wr_non, ↓Wr_gl, ↓Wr_dspc, ↓Wr_fs, ↓Wr_tup, ↓Wr_lst, ↓Wr_op1, ↓Wr_op2, ↓Wr_sm1, ↓Wr_slc, ↓Wr_isi, ↓Wr_and, ↓Wr_or, ↓Wr_not, ↓Wr_ife, ↓Wr_chn, ↓Wr_pop, ↓Wr_call, ↓Wr_callk, ↓Wr_comp, ↓Ws_set, ↓Ws_unp, ↓Ws_unps, ↓Ws_app, ↓Ws_seti, ↓Ws_setf, ↓Ws_expr, ↓Ws_ife, ↓Ws_for, ↓Ws_while, ↓Ws_ret, ↓Ws_retv, ↓Ws_retn, ↓Ws_brk, ↓Ws_cont, ↓Ws_pass, ↓Wss_cons, ↓Wss_nil, ↓Wes_nil, ↓Wes_cons, ↓Wo_none, ↓Wo_some, ↓Was_nil, ↓Was_ev, ↓Was_pk, ↓Wcall_def, catA_nil, catA_cons, ↓Wsrc_seq, ↓Wsrc_rng1, ↓Wsrc_rng2, ↓Wsrc_zip, ↓seq_nx, ↓seq_rt, ↓seq_bk, ↓seq_ct, ↓seq_ex, ↓W1_some, ↓WJ_some, ↓W1_none, ↓WJ_none, ↓Wf_fz, ↓Wf_lst, ↓Wf_dct, ↓Wf_obj, ↓Wb_bl, ↓Wi_int, ↓Wif_true, ↓Wif_false, ↓Wv_fz, ↓Wv_ow, ↓Wv_owd, ↓Wv_owo, ↓Wsem_ok, ↓setR_fz, ↓setR_fr, ↓Wrv_some, ↓Wpk_some, ↓Wunp_fz, ↓Wunps_lst, ↓WisL_lst, ↓Wapp_ow, ↓Wapp_io, ↓Wseti_ow, ↓Wseti_io, ↓Wretv_fz, ↓Wretv_ow, ↓Wpop_io, ↓Wpop_ow, ↓Wturn_none, ↓Wturn_some, ↓accO_some, ↓accO_none, ↓res_val, ↓res_pk, ↓slotD_0, ↓slotD_s, W1_some, WJ_some, W1_none, WJ_none, Wf_fz, Wf_lst, Wf_dct, Wf_obj, Wb_bl, Wi_int, Wif_true, Wif_false, Wv_fz, Wv_ow, Wv_owd, Wv_owo, Wsem_ok, setR_fz, setR_fr, Wrv_some, Wpk_some, Wunp_fz, Wunps_lst, WisL_lst, Wapp_ow, Wapp_io, Wseti_ow, Wseti_io, Wretv_fz, Wretv_ow, Wpop_io, Wpop_ow, accO_some, accO_none, Int.reduceLT, Int.reduceLE, Nat.reduceLT, Nat.reduceLeDiff, Int.reduceToNat, Int.reduceAdd, Int.reduceSub, Int.reduceMul, Int.reduceNeg, decide_true, decide_false, Bool.or_true, Bool.true_or, Bool.or_false, Bool.false_or, Bool.and_true, Bool.true_and, Bool.and_false, Bool.false_and, Bool.not_true, Bool.not_false, and_true, true_and, Option.map_some, Option.map_none, Option.bind_some, Option.bind_none, List.set_cons_zero, List.set_cons_succ, k1_len_str, k1_len_tup, k1_len_lst, k1_len_frl, k1_abs, k1_neg, k1_int, k1_intb, k1_tuple_lst, k1_tuple_tup, k1_list_lst, k1_list_tup, k1_rev, k1_isN, k1_notN, k2_add, k2_add_str, k2_add_lst, k2_sub, k1_isT, k1_notT, k2_mul, k2_muls, k2_fdiv, k2_mod, k2_pow6, k2_pow18, k2_pow12, k2_lt, k2_le, k2_gt, k2_ge, k2_eq, k2_ne, k2_in, k2_notin, k2_idx, idx_0, idx_1, idx_2, idx_3, idt_0, idt_1, idt_2, idt_3, k2_max, slc_str, slc_lst, slc_frl, seq_lst, seq_tup, seq_str, turnE_nx, turnE_ct, turnE_rt, turnE_bk, wipeD, backW, freeT_nil, freeT_cons, freeT1_none, freeT1_fz, freeT1_fzs, lockI, lockD_n, lockD_s, openD_n, openD_s, bindT_1, bindT_2, bindM, size_le, List.foldl_cons, List.foldl_nil, List.all_cons, List.all_nil, List.getElem?_cons_zero, List.getElem?_cons_succ, Option.join_some, Option.join_none, List.zip_cons_cons, List.zip_nil_left, List.length_cons, List.length_nil, List.length_append, Nat.reduceAdd, Nat.reduceEqDiff, Bool.false_eq_true, if_true, if_false, ↓reduceIte, ite_true, ite_false, ki_int_int, ki_int_str, ki_int_bool, ki_int_list, ki_int_tuple, ki_int_dict, ki_bl_int, ki_bl_str, ki_bl_bool, ki_bl_list, ki_bl_tuple, ki_bl_dict, ki_str_int, ki_str_str, ki_str_bool, ki_str_list, ki_str_tuple, ki_str_dict, ki_lst_int, ki_lst_str, ki_lst_bool, ki_lst_list, ki_lst_tuple, ki_lst_dict, ki_frl_int, ki_frl_str, ki_frl_bool, ki_frl_list, ki_frl_tuple, ki_frl_dict, ki_tup_int, ki_tup_str, ki_tup_bool, ki_tup_list, ki_tup_tuple, ki_tup_dict, ki_dct_int, ki_dct_str, ki_dct_bool, ki_dct_list, ki_dct_tuple, ki_dct_dict, ki_non_int, ki_non_str, ki_non_bool, ki_non_list, ki_non_tuple, ki_non_dict, kis_nil, kis_t, kis_f, Z.argsOf, Z.argOf, Z.backTo, Z.outsOf, List.any_nil, List.any_cons, T_law_side_1_1]
      have h : ¬ (0 : Int) > k := by omega
      rw [if_neg h]
      exact ⟨some _, k, 0, by first | omega | (simp; omega), by omega, inf 0 k (fun z => absurd z hd) (by omega) (by omega), suf _ fun z => absurd z hd, rfl⟩
  · rintro δ ⟨a, k, r, h1, h2, h3, h4, rfl⟩
    simp only [↓We_var, ↓We_int, ↓We_str, ↓We_bl, ↓We_non, ↓We_gl, ↓We_dspc, ↓We_fs, ↓We_tup, ↓We_lst, ↓We_op1, ↓We_op2, ↓We_sm1, ↓We_slc, ↓We_isi, ↓We_and, ↓We_or, ↓We_one, ↓We_not, ↓We_ife, ↓We_chn, ↓We_pop, ↓We_call, ↓We_callk, ↓We_comp, ↓Wr_var, ↓Wr_int, ↓Wr_str, ↓Wr_bl, ↓Wr_non, ↓Wr_gl, ↓Wr_dspc, ↓Wr_fs, ↓Wr_tup, ↓Wr_lst, ↓Wr_op1, ↓Wr_op2, ↓Wr_sm1, ↓Wr_slc, ↓Wr_isi, ↓Wr_and, ↓Wr_or, ↓Wr_not, ↓Wr_ife, ↓Wr_chn, ↓Wr_pop, ↓Wr_call, ↓Wr_callk, ↓Wr_comp, ↓Ws_set, ↓Ws_unp, ↓Ws_unps, ↓Ws_app, ↓Ws_seti, ↓Ws_setf, ↓Ws_expr, ↓Ws_ife, ↓Ws_for, ↓Ws_while, ↓Ws_ret, ↓Ws_retv, ↓Ws_retn, ↓Ws_brk, ↓Ws_cont, ↓Ws_pass, ↓Wss_cons, ↓Wss_nil, ↓Wes_nil, ↓Wes_cons, ↓Wo_none, ↓Wo_some, ↓Was_nil, ↓Was_ev, ↓Was_pk, ↓Wcall_def, catA_nil, catA_cons, ↓Wsrc_seq, ↓Wsrc_rng1, ↓Wsrc_rng2, ↓Wsrc_zip, ↓seq_nx, ↓seq_rt, ↓seq_bk, ↓seq_ct, ↓seq_ex, ↓W1_some, ↓WJ_some, ↓W1_none, ↓WJ_none, ↓Wf_fz, ↓Wf_lst, ↓Wf_dct, ↓Wf_obj, ↓Wb_bl, ↓Wi_int, ↓Wif_true, ↓Wif_false, ↓Wv_fz, ↓Wv_ow, ↓Wv_owd, ↓Wv_owo, ↓Wsem_ok, ↓setR_fz, ↓setR_fr, ↓Wrv_some, ↓Wpk_some, ↓Wunp_fz, ↓Wunps_lst, ↓WisL_lst, ↓Wapp_ow, ↓Wapp_io, ↓Wseti_ow, ↓Wseti_io, ↓Wretv_fz, ↓Wretv_ow, ↓Wpop_io, ↓Wpop_ow, ↓Wturn_none, ↓Wturn_some, ↓accO_some, ↓accO_none, ↓res_val, ↓res_pk, ↓slotD_0, ↓slotD_s, W1_some, WJ_some, W1_none, WJ_none, Wf_fz, Wf_lst, Wf_dct, Wf_obj, Wb_bl, Wi_int, Wif_true, Wif_false, Wv_fz, Wv_ow, Wv_owd, Wv_owo, Wsem_ok, setR_fz, setR_fr, Wrv_some, Wpk_some, Wunp_fz, Wunps_lst, WisL_lst, Wapp_ow, Wapp_io, Wseti_ow, Wseti_io, Wretv_fz, Wretv_ow, Wpop_io, Wpop_ow, accO_some, accO_none, Int.reduceLT, Int.reduceLE, Nat.reduceLT, Nat.reduceLeDiff, Int.reduceToNat, Int.reduceAdd, Int.reduceSub, Int.reduceMul, Int.reduceNeg, decide_true, decide_false, Bool.or_true, Bool.true_or, Bool.or_false, Bool.false_or, Bool.and_true, Bool.true_and, Bool.and_false, Bool.false_and, Bool.not_true, Bool.not_false, and_true, true_and, Option.map_some, Option.map_none, Option.bind_some, Option.bind_none, List.set_cons_zero, List.set_cons_succ, k1_len_str, k1_len_tup, k1_len_lst, k1_len_frl, k1_abs, k1_neg, k1_int, k1_intb, k1_tuple_lst, k1_tuple_tup, k1_list_lst, k1_list_tup, k1_rev, k1_isN, k1_notN, k2_add, k2_add_str, k2_add_lst, k2_sub, k1_isT, k1_notT, k2_mul, k2_muls, k2_fdiv, k2_mod, k2_pow6, k2_pow18, k2_pow12, k2_lt, k2_le, k2_gt, k2_ge, k2_eq, k2_ne, k2_in, k2_notin, k2_idx, idx_0, idx_1, idx_2, idx_3, idt_0, idt_1, idt_2, idt_3, k2_max, slc_str, slc_lst, slc_frl, seq_lst, seq_tup, seq_str, turnE_nx, turnE_ct, turnE_rt, turnE_bk, wipeD, backW, freeT_nil, freeT_cons, freeT1_none, freeT1_fz, freeT1_fzs, lockI, lockD_n, lockD_s, openD_n, openD_s, bindT_1, bindT_2, bindM, size_le, List.foldl_cons, List.foldl_nil, List.all_cons, List.all_nil, List.getElem?_cons_zero, List.getElem?_cons_succ, Option.join_some, Option.join_none, List.zip_cons_cons, List.zip_nil_left, List.length_cons, List.length_nil, List.length_append, Nat.reduceAdd, Nat.reduceEqDiff, Bool.false_eq_true, if_true, if_false, ↓reduceIte, ite_true, ite_false, ki_int_int, ki_int_str, ki_int_bool, ki_int_list, ki_int_tuple, ki_int_dict, ki_bl_int, ki_bl_str, ki_bl_bool, ki_bl_list, ki_bl_tuple, ki_bl_dict, ki_str_int, ki_str_str, ki_str_bool, ki_str_list, ki_str_tuple, ki_str_dict, ki_lst_int, ki_lst_str, ki_lst_bool, ki_lst_list, ki_lst_tuple, ki_lst_dict, ki_frl_int, ki_frl_str, ki_frl_bool, ki_frl_list, ki_frl_tuple, ki_frl_dict, ki_tup_int, ki_tup_str, ki_tup_bool, ki_tup_list, ki_tup_tuple, ki_tup_dict, ki_dct_int, ki_dct_str, ki_dct_bool, ki_dct_list, ki_dct_tuple, ki_dct_dict, ki_non_int, ki_non_str, ki_non_bool, ki_non_list, ki_non_tuple, ki_non_dict, kis_nil, kis_t, kis_f, Z.argsOf, Z.argOf, Z.backTo, Z.outsOf, List.any_nil, List.any_cons, T_law_side_0_3]
    refine hrt _ _ ?_
    simp only [↓We_var, ↓We_int, ↓We_str, ↓We_bl, ↓We_non, ↓We_gl, ↓We_dspc, ↓We_fs, ↓We_tup, ↓We_lst, ↓We_op1, ↓We_op2, ↓We_sm1, ↓We_slc, ↓We_isi, ↓We_and, ↓We_or, ↓We_one, ↓We_not, ↓We_ife, ↓We_chn, ↓We_pop, ↓We_call, ↓We_callk, ↓We_comp, ↓Wr_var, ↓Wr_int, ↓Wr_str, ↓Wr_bl, ↓Wr_non, ↓Wr_gl, ↓Wr_dspc, ↓Wr_fs, ↓Wr_tup, ↓Wr_lst, ↓Wr_op1, ↓Wr_op2, ↓Wr_sm1, ↓Wr_slc, ↓Wr_isi, ↓Wr_and, ↓Wr_or, ↓Wr_not, ↓Wr_ife, ↓Wr_chn, ↓Wr_pop, ↓Wr_call, ↓Wr_callk, ↓Wr_comp, ↓Ws_set, ↓Ws_unp, ↓Ws_unps, ↓Ws_app, ↓Ws_seti, ↓Ws_setf, ↓Ws_expr, ↓Ws_ife, ↓Ws_for, ↓Ws_while, ↓Ws_ret, ↓Ws_retv, ↓Ws_retn, ↓Ws_brk, ↓Ws_cont, ↓Ws_pass, ↓Wss_cons, ↓Wss_nil, ↓Wes_nil, ↓Wes_cons, ↓Wo_none, ↓Wo_some, ↓Was_nil, ↓Was_ev, ↓Was_pk, ↓Wcall_def, catA_nil, catA_cons, ↓Wsrc_seq, ↓Wsrc_rng1, ↓Wsrc_rng2, ↓Wsrc_zip, ↓seq_nx, ↓seq_rt, ↓seq_bk, ↓seq_ct, ↓seq_ex, ↓W1_some, ↓WJ_some, ↓W1_none, ↓WJ_none, ↓Wf_fz, ↓Wf_lst, ↓Wf_dct, ↓Wf_obj, ↓Wb_bl, ↓Wi_int, ↓Wif_true, ↓Wif_false, ↓Wv_fz, ↓Wv_ow, ↓Wv_owd, ↓Wv_owo, ↓Wsem_ok, ↓setR_fz, ↓setR_fr, ↓Wrv_some, ↓Wpk_some, ↓Wunp_fz, ↓Wunps_lst, ↓WisL_lst, ↓Wapp_ow, ↓Wapp_io, ↓Wseti_ow, ↓Wseti_io, ↓Wretv_fz, ↓Wretv_ow, ↓Wpop_io, ↓Wpop_ow, ↓Wturn_none, ↓Wturn_some, ↓accO_some, ↓accO_none, ↓res_val, ↓res_pk, ↓slotD_0, ↓slotD_s, W1_some, WJ_some, W1_none, WJ_none, Wf_fz, Wf_lst, Wf_dct, Wf_obj, Wb_bl, Wi_int, Wif_true, Wif_false, Wv_fz, Wv_ow, Wv_owd, Wv_owo, Wsem_ok, setR_fz, setR_fr, Wrv_some, Wpk_some, Wunp_fz, Wunps_lst, WisL_lst, Wapp_ow, Wapp_io, Wseti_ow, Wseti_io, Wretv_fz, Wretv_ow, Wpop_io, Wpop_ow, accO_some, accO_none, Int.reduceLT, Int.reduceLE, Nat.reduceLT, Nat.reduceLeDiff, Int.reduceToNat, Int.reduceAdd, Int.reduceSub, Int.reduceMul, Int.reduceNeg, decide_true, decide_false, Bool.or_true, Bool.true_or, Bool.or_false, Bool.false_or, Bool.and_true, Bool.true_and, Bool.and_false, Bool.false_and, Bool.not_true, Bool.not_false, and_true, true_and, Option.map_some, Option.map_none, Option.bind_some, Option.bind_none, List.set_cons_zero, List.set_cons_succ, k1_len_str, k1_len_tup, k1_len_lst, k1_len_frl, k1_abs, k1_neg, k1_int, k1_intb, k1_tuple_lst, k1_tuple_tup, k1_list_lst, k1_list_tup, k1_rev, k1_isN, k1_notN, k2_add, k2_add_str, k2_add_lst, k2_sub, k1_isT, k1_notT, k2_mul, k2_muls, k2_fdiv, k2_mod, k2_pow6, k2_pow18, k2_pow12, k2_lt, k2_le, k2_gt, k2_ge, k2_eq, k2_ne, k2_in, k2_notin, k2_idx, idx_0, idx_1, idx_2, idx_3, idt_0, idt_1, idt_2, idt_3, k2_max, slc_str, slc_lst, slc_frl, seq_lst, seq_tup, seq_str, turnE_nx, turnE_ct, turnE_rt, turnE_bk, wipeD, backW, freeT_nil, freeT_cons, freeT1_none, freeT1_fz, freeT1_fzs, lockI, lockD_n, lockD_s, openD_n, openD_s, bindT_1, bindT_2, bindM, size_le, List.foldl_cons, List.foldl_nil, List.all_cons, List.all_nil, List.getElem?_cons_zero, List.getElem?_cons_succ, Option.join_some, Option.join_none, List.zip_cons_cons, List.zip_nil_left, List.length_cons, List.length_nil, List.length_append, Nat.reduceAdd, Nat.reduceEqDiff, Bool.false_eq_true, if_true, if_false, ↓reduceIte, ite_true, ite_false, ki_int_int, ki_int_str, ki_int_bool, ki_int_list, ki_int_tuple, ki_int_dict, ki_bl_int, ki_bl_str, ki_bl_bool, ki_bl_list, ki_bl_tuple, ki_bl_dict, ki_str_int, ki_str_str, ki_str_bool, ki_str_list, ki_str_tuple, ki_str_dict, ki_lst_int, ki_lst_str, ki_lst_bool, ki_lst_list, ki_lst_tuple, ki_lst_dict, ki_frl_int, ki_frl_str, ki_frl_bool, ki_frl_list, ki_frl_tuple, ki_frl_dict, ki_tup_int, ki_tup_str, ki_tup_bool, ki_tup_list, ki_tup_tuple, ki_tup_dict, ki_dct_int, ki_dct_str, ki_dct_bool, ki_dct_list, ki_dct_tuple, ki_dct_dict, ki_non_int, ki_non_str, ki_non_bool, ki_non_list, ki_non_tuple, ki_non_dict, kis_nil, kis_t, kis_f, Z.argsOf, Z.argOf, Z.backTo, Z.outsOf, List.any_nil, List.any_cons]
    exact ⟨k, h1, h3, rfl⟩
/-- a relation and a mode of the law -/
structure Rm (n m : List Nat) : Prop where
  ok : Ok n
  len : n.length ≤ 80
  nm : nameB (.str n) = true
  bf : Bf m
  ml : m.length ≤ 5
theorem inD_two {t a b : List Nat} : inD (.str t) (.lst [.str a, .str b]) = some (a == t || b == t) := by
  simp [inD, flatD, eqF]
/-- the three kinds -/
def kinds (n m : List Nat) (H a b : Nat) : D := .lst [.str (nw n m H []), .str (nw n m H [63]), .str (nw n m H (tailL a b))]
theorem law_true : ∀ ns : List Int, ns.length ≤ 63 → ∃ outs, outs.length = 1 ∧ Flaw.sem [(.fz, .frl (ns.map D.int))] = .ok (.fz (.bl true)) outs := by
  intro ns _
  rw [Flaw_sem]
  obtain ⟨fs, hf, e_flow⟩ := flow_ok ns
  generalize D.frl (ns.map D.int) = sc at *
  suffices ∃ r outs, runF 1 20 Blaw [(.fz, sc)] = .ok r outs ∧ r = .fz (.bl true) ∧ outs.length = 1 by
    obtain ⟨r, outs, e, rfl, h⟩ := this
    exact ⟨outs, h, e⟩
  refine runF_to (np := 1) _ rfl fun En hrt hnx => ?_; simp only [List.map_cons, List.map_nil, List.replicate, Nat.reduceSub, List.replicate_zero, List.cons_append, List.nil_append, Blaw, Tlaw_0_0]
  obtain ⟨n1, fs1, ok1, l1, nm1, hf1, e1⟩ := word_ok hf
  obtain ⟨n2, fs2, ok2, l2, nm2, hf2, e2⟩ := word_ok hf1
  obtain ⟨m1, fs3, b1, ml1, hf3, e3⟩ := mode_ok hf2
  obtain ⟨m2, fs4, b2, ml2, hf4, e4⟩ := mode_ok hf3
  simp only [↓We_var, ↓We_int, ↓We_str, ↓We_bl, ↓We_non, ↓We_gl, ↓We_dspc, ↓We_fs, ↓We_tup, ↓We_lst, ↓We_op1, ↓We_op2, ↓We_sm1, ↓We_slc, ↓We_isi, ↓We_and, ↓We_or, ↓We_one, ↓We_not, ↓We_ife, ↓We_chn, ↓We_pop, ↓We_call, ↓We_callk, ↓We_comp, ↓Wr_var, ↓Wr_int, ↓Wr_str, ↓Wr_bl, ↓Wr_non, ↓Wr_gl, ↓Wr_dspc, ↓Wr_fs, ↓Wr_tup, ↓Wr_lst, ↓Wr_op1, ↓Wr_op2, ↓Wr_sm1, ↓Wr_slc, ↓Wr_isi, ↓Wr_and, ↓Wr_or, ↓Wr_not, ↓Wr_ife, ↓Wr_chn, ↓Wr_pop, ↓Wr_call, ↓Wr_callk, ↓Wr_comp, ↓Ws_set, ↓Ws_unp, ↓Ws_unps, ↓Ws_app, ↓Ws_seti, ↓Ws_setf, ↓Ws_expr, ↓Ws_ife, ↓Ws_for, ↓Ws_while, ↓Ws_ret, ↓Ws_retv, ↓Ws_retn, ↓Ws_brk, ↓Ws_cont, ↓Ws_pass, ↓Wss_cons, ↓Wss_nil, ↓Wes_nil, ↓Wes_cons, ↓Wo_none, ↓Wo_some, ↓Was_nil, ↓Was_ev, ↓Was_pk, ↓Wcall_def, catA_nil, catA_cons, ↓Wsrc_seq, ↓Wsrc_rng1, ↓Wsrc_rng2, ↓Wsrc_zip, ↓seq_nx, ↓seq_rt, ↓seq_bk, ↓seq_ct, ↓seq_ex, ↓W1_some, ↓WJ_some, ↓W1_none, ↓WJ_none, ↓Wf_fz, ↓Wf_lst, ↓Wf_dct, ↓Wf_obj, ↓Wb_bl, ↓Wi_int, ↓Wif_true, ↓Wif_false, ↓Wv_fz, ↓Wv_ow, ↓Wv_owd, ↓Wv_owo, ↓Wsem_ok, ↓setR_fz, ↓setR_fr, ↓Wrv_some, ↓Wpk_some, ↓Wunp_fz, ↓Wunps_lst, ↓WisL_lst, ↓Wapp_ow, ↓Wapp_io, ↓Wseti_ow, ↓Wseti_io, ↓Wretv_fz, ↓Wretv_ow, ↓Wpop_io, ↓Wpop_ow, ↓Wturn_none, ↓Wturn_some, ↓accO_some, ↓accO_none, ↓res_val, ↓res_pk, ↓slotD_0, ↓slotD_s, W1_some, WJ_some, W1_none, WJ_none, Wf_fz, Wf_lst, Wf_dct, Wf_obj, Wb_bl, Wi_int, Wif_true, Wif_false, Wv_fz, Wv_ow, Wv_owd, Wv_owo, Wsem_ok, setR_fz, setR_fr, Wrv_some, Wpk_some, Wunp_fz, Wunps_lst, WisL_lst, Wapp_ow, Wapp_io, Wseti_ow, Wseti_io, Wretv_fz, Wretv_ow, Wpop_io, Wpop_ow, accO_some, accO_none, Int.reduceLT, Int.reduceLE, Nat.reduceLT, Nat.reduceLeDiff, Int.reduceToNat, Int.reduceAdd, Int.reduceSub, Int.reduceMul, Int.reduceNeg, decide_true, decide_false, Bool.or_true, Bool.true_or, Bool.or_false, Bool.false_or, Bool.and_true, Bool.true_and, Bool.and_false, Bool.false_and, Bool.not_true, Bool.not_false, and_true, true_and, Option.map_some, Option.map_none, Option.bind_some, Option.bind_none, List.set_cons_zero, List.set_cons_succ, k1_len_str, k1_len_tup, k1_len_lst, k1_len_frl, k1_abs, k1_neg, k1_int, k1_intb, k1_tuple_lst, k1_tuple_tup, k1_list_lst, k1_list_tup, k1_rev, k1_isN, k1_notN, k2_add, k2_add_str, k2_add_lst, k2_sub, k1_isT, k1_notT, k2_mul, k2_muls, k2_fdiv, k2_mod, k2_pow6, k2_pow18, k2_pow12, k2_lt, k2_le, k2_gt, k2_ge, k2_eq, k2_ne, k2_in, k2_notin, k2_idx, idx_0, idx_1, idx_2, idx_3, idt_0, idt_1, idt_2, idt_3, k2_max, slc_str, slc_lst, slc_frl, seq_lst, seq_tup, seq_str, turnE_nx, turnE_ct, turnE_rt, turnE_bk, wipeD, backW, freeT_nil, freeT_cons, freeT1_none, freeT1_fz, freeT1_fzs, lockI, lockD_n, lockD_s, openD_n, openD_s, bindT_1, bindT_2, bindM, size_le, List.foldl_cons, List.foldl_nil, List.all_cons, List.all_nil, List.getElem?_cons_zero, List.getElem?_cons_succ, Option.join_some, Option.join_none, List.zip_cons_cons, List.zip_nil_left, List.length_cons, List.length_nil, List.length_append, Nat.reduceAdd, Nat.reduceEqDiff, Bool.false_eq_true, if_true, if_false, ↓reduceIte, ite_true, ite_false, ki_int_int, ki_int_str, ki_int_bool, ki_int_list, ki_int_tuple, ki_int_dict, ki_bl_int, ki_bl_str, ki_bl_bool, ki_bl_list, ki_bl_tuple, ki_bl_dict, ki_str_int, ki_str_str, ki_str_bool, ki_str_list, ki_str_tuple, ki_str_dict, ki_lst_int, ki_lst_str, ki_lst_bool, ki_lst_list, ki_lst_tuple, ki_lst_dict, ki_frl_int, ki_frl_str, ki_frl_bool, ki_frl_list, ki_frl_tuple, ki_frl_dict, ki_tup_int, ki_tup_str, ki_tup_bool, ki_tup_list, ki_tup_tuple, ki_tup_dict, ki_dct_int, ki_dct_str, ki_dct_bool, ki_dct_list, ki_dct_tuple, ki_dct_dict, ki_non_int, ki_non_str, ki_non_bool, ki_non_list, ki_non_tuple, ki_non_dict, kis_nil, kis_t, kis_f, Z.argsOf, Z.argOf, Z.backTo, Z.outsOf, List.any_nil, List.any_cons, e_flow, Tlaw_0_1, e1, e2, Tlaw_0_2, e3, e4, Tlaw_0_3]
  clear e1 e2 e3 e4 hf hf1 hf2 hf3
  have hf := hf4
  obtain ⟨v, fs, v_lt, hf, e_dr⟩ := draw_ok hf (n := 4) (by first | decide | omega); simp only [↓We_var, ↓We_int, ↓We_str, ↓We_bl, ↓We_non, ↓We_gl, ↓We_dspc, ↓We_fs, ↓We_tup, ↓We_lst, ↓We_op1, ↓We_op2, ↓We_sm1, ↓We_slc, ↓We_isi, ↓We_and, ↓We_or, ↓We_one, ↓We_not, ↓We_ife, ↓We_chn, ↓We_pop, ↓We_call, ↓We_callk, ↓We_comp, ↓Wr_var, ↓Wr_int, ↓Wr_str, ↓Wr_bl, ↓Wr_non, ↓Wr_gl, ↓Wr_dspc, ↓Wr_fs, ↓Wr_tup, ↓Wr_lst, ↓Wr_op1, ↓Wr_op2, ↓Wr_sm1, ↓Wr_slc, ↓Wr_isi, ↓Wr_and, ↓Wr_or, ↓Wr_not, ↓Wr_ife, ↓Wr_chn, ↓Wr_pop, ↓Wr_call, ↓Wr_callk, ↓Wr_comp, ↓Ws_set, ↓Ws_unp, ↓Ws_unps, ↓Ws_app, ↓Ws_seti, ↓Ws_setf, ↓Ws_expr, ↓Ws_ife, ↓Ws_for, ↓Ws_while, ↓Ws_ret, ↓Ws_retv, ↓Ws_retn, ↓Ws_brk, ↓Ws_cont, ↓Ws_pass, ↓Wss_cons, ↓Wss_nil, ↓Wes_nil, ↓Wes_cons, ↓Wo_none, ↓Wo_some, ↓Was_nil, ↓Was_ev, ↓Was_pk, ↓Wcall_def, catA_nil, catA_cons, ↓Wsrc_seq, ↓Wsrc_rng1, ↓Wsrc_rng2, ↓Wsrc_zip, ↓seq_nx, ↓seq_rt, ↓seq_bk, ↓seq_ct, ↓seq_ex, ↓W1_some, ↓WJ_some, ↓W1_none, ↓WJ_none, ↓Wf_fz, ↓Wf_lst, ↓Wf_dct, ↓Wf_obj, ↓Wb_bl, ↓Wi_int, ↓Wif_true, ↓Wif_false, ↓Wv_fz, ↓Wv_ow, ↓Wv_owd, ↓Wv_owo, ↓Wsem_ok, ↓setR_fz, ↓setR_fr, ↓Wrv_some, ↓Wpk_some, ↓Wunp_fz, ↓Wunps_lst, ↓WisL_lst, ↓Wapp_ow, ↓Wapp_io, ↓Wseti_ow, ↓Wseti_io, ↓Wretv_fz, ↓Wretv_ow, ↓Wpop_io, ↓Wpop_ow, ↓Wturn_none, ↓Wturn_some, ↓accO_some, ↓accO_none, ↓res_val, ↓res_pk, ↓slotD_0, ↓slotD_s, W1_some, WJ_some, W1_none, WJ_none, Wf_fz, Wf_lst, Wf_dct, Wf_obj, Wb_bl, Wi_int, Wif_true, Wif_false, Wv_fz, Wv_ow, Wv_owd, Wv_owo, Wsem_ok, setR_fz, setR_fr, Wrv_some, Wpk_some, Wunp_fz, Wunps_lst, WisL_lst, Wapp_ow, Wapp_io, Wseti_ow, Wseti_io, Wretv_fz, Wretv_ow, Wpop_io, Wpop_ow, accO_some, accO_none, Int.reduceLT, Int.reduceLE, Nat.reduceLT, Nat.reduceLeDiff, Int.reduceToNat, Int.reduceAdd, Int.reduceSub, Int.reduceMul, Int.reduceNeg, decide_true, decide_false, Bool.or_true, Bool.true_or, Bool.or_false, Bool.false_or, Bool.and_true, Bool.true_and, Bool.and_false, Bool.false_and, Bool.not_true, Bool.not_false, and_true, true_and, Option.map_some, Option.map_none, Option.bind_some, Option.bind_none, List.set_cons_zero, List.set_cons_succ, k1_len_str, k1_len_tup, k1_len_lst, k1_len_frl, k1_abs, k1_neg, k1_int, k1_intb, k1_tuple_lst, k1_tuple_tup, k1_list_lst, k1_list_tup, k1_rev, k1_isN, k1_notN, k2_add, k2_add_str, k2_add_lst, k2_sub, k1_isT, k1_notT, k2_mul, k2_muls, k2_fdiv, k2_mod, k2_pow6, k2_pow18, k2_pow12, k2_lt, k2_le, k2_gt, k2_ge, k2_eq, k2_ne, k2_in, k2_notin, k2_idx, idx_0, idx_1, idx_2, idx_3, idt_0, idt_1, idt_2, idt_3, k2_max, slc_str, slc_lst, slc_frl, seq_lst, seq_tup, seq_str, turnE_nx, turnE_ct, turnE_rt, turnE_bk, wipeD, backW, freeT_nil, freeT_cons, freeT1_none, freeT1_fz, freeT1_fzs, lockI, lockD_n, lockD_s, openD_n, openD_s, bindT_1, bindT_2, bindM, size_le, List.foldl_cons, List.foldl_nil, List.all_cons, List.all_nil, List.getElem?_cons_zero, List.getElem?_cons_succ, Option.join_some, Option.join_none, List.zip_cons_cons, List.zip_nil_left, List.length_cons, List.length_nil, List.length_append, Nat.reduceAdd, Nat.reduceEqDiff, Bool.false_eq_true, if_true, if_false, ↓reduceIte, ite_true, ite_false, ki_int_int, ki_int_str, ki_int_bool, ki_int_list, ki_int_tuple, ki_int_dict, ki_bl_int, ki_bl_str, ki_bl_bool, ki_bl_list, ki_bl_tuple, ki_bl_dict, ki_str_int, ki_str_str, ki_str_bool, ki_str_list, ki_str_tuple, ki_str_dict, ki_lst_int, ki_lst_str, ki_lst_bool, ki_lst_list, ki_lst_tuple, ki_lst_dict, ki_frl_int, ki_frl_str, ki_frl_bool, ki_frl_list, ki_frl_tuple, ki_frl_dict, ki_tup_int, ki_tup_str, ki_tup_bool, ki_tup_list, ki_tup_tuple, ki_tup_dict, ki_dct_int, ki_dct_str, ki_dct_bool, ki_dct_list, ki_dct_tuple, ki_dct_dict, ki_non_int, ki_non_str, ki_non_bool, ki_non_list, ki_non_tuple, ki_non_dict, kis_nil, kis_t, kis_f, Z.argsOf, Z.argOf, Z.backTo, Z.outsOf, List.any_nil, List.any_cons, e_dr]; clear e_dr
  have i2 : int64 2 = true := by decide
  have ix21 : ixD 2 1 = some 1 := by decide
  have k6 : ∀ (n1 n2 m1 m2 : List Nat), Rm n1 m1 → Rm n2 m2 → Wss Tlaw_0_6 [some (.fz, sc), some (.ow, flw fs), some (.ow, .lst [.str n1, .str n2]), some (.ow, .lst [.str m1, .str m2]), some (.fz, .int v), none, none, none, none, none, none, none, none, none, none, none, none, none, none, none] En := by
    intro n1 n2 m1 m2 r1 r2
    simp only [↓We_var, ↓We_int, ↓We_str, ↓We_bl, ↓We_non, ↓We_gl, ↓We_dspc, ↓We_fs, ↓We_tup, ↓We_lst, ↓We_op1, ↓We_op2, ↓We_sm1, ↓We_slc, ↓We_isi, ↓We_and, ↓We_or, ↓We_one, ↓We_not, ↓We_ife, ↓We_chn, ↓We_pop, ↓We_call, ↓We_callk, ↓We_comp, ↓Wr_var, ↓Wr_int, ↓Wr_str, ↓Wr_bl, ↓Wr_non, ↓Wr_gl, ↓Wr_dspc, ↓Wr_fs, ↓Wr_tup, ↓Wr_lst, ↓Wr_op1, ↓Wr_op2, ↓Wr_sm1, ↓Wr_slc, ↓Wr_isi, ↓Wr_and, ↓Wr_or, ↓Wr_not, ↓Wr_ife, ↓Wr_chn, ↓Wr_pop, ↓Wr_call, ↓Wr_callk, ↓Wr_comp, ↓Ws_set, ↓Ws_unp, ↓Ws_unps, ↓Ws_app, ↓Ws_seti, ↓Ws_setf, ↓Ws_expr, ↓Ws_ife, ↓Ws_for, ↓Ws_while, ↓Ws_ret, ↓Ws_retv, ↓Ws_retn, ↓Ws_brk, ↓Ws_cont, ↓Ws_pass, ↓Wss_cons, ↓Wss_nil, ↓Wes_nil, ↓Wes_cons, ↓Wo_none, ↓Wo_some, ↓Was_nil, ↓Was_ev, ↓Was_pk, ↓Wcall_def, catA_nil, catA_cons, ↓Wsrc_seq, ↓Wsrc_rng1, ↓Wsrc_rng2, ↓Wsrc_zip, ↓seq_nx, ↓seq_rt, ↓seq_bk, ↓seq_ct, ↓seq_ex, ↓W1_some, ↓WJ_some, ↓W1_none, ↓WJ_none, ↓Wf_fz, ↓Wf_lst, ↓Wf_dct, ↓Wf_obj, ↓Wb_bl, ↓Wi_int, ↓Wif_true, ↓Wif_false, ↓Wv_fz, ↓Wv_ow, ↓Wv_owd, ↓Wv_owo, ↓Wsem_ok, ↓setR_fz, ↓setR_fr, ↓Wrv_some, ↓Wpk_some, ↓Wunp_fz, ↓Wunps_lst, ↓WisL_lst, ↓Wapp_ow, ↓Wapp_io, ↓Wseti_ow, ↓Wseti_io, ↓Wretv_fz, ↓Wretv_ow, ↓Wpop_io, ↓Wpop_ow, ↓Wturn_none, ↓Wturn_some, ↓accO_some, ↓accO_none, ↓res_val, ↓res_pk, ↓slotD_0, ↓slotD_s, W1_some, WJ_some, W1_none, WJ_none, Wf_fz, Wf_lst, Wf_dct, Wf_obj, Wb_bl, Wi_int, Wif_true, Wif_false, Wv_fz, Wv_ow, Wv_owd, Wv_owo, Wsem_ok, setR_fz, setR_fr, Wrv_some, Wpk_some, Wunp_fz, Wunps_lst, WisL_lst, Wapp_ow, Wapp_io, Wseti_ow, Wseti_io, Wretv_fz, Wretv_ow, Wpop_io, Wpop_ow, accO_some, accO_none, Int.reduceLT, Int.reduceLE, Nat.reduceLT, Nat.reduceLeDiff, Int.reduceToNat, Int.reduceAdd, Int.reduceSub, Int.reduceMul, Int.reduceNeg, decide_true, decide_false, Bool.or_true, Bool.true_or, Bool.or_false, Bool.false_or, Bool.and_true, Bool.true_and, Bool.and_false, Bool.false_and, Bool.not_true, Bool.not_false, and_true, true_and, Option.map_some, Option.map_none, Option.bind_some, Option.bind_none, List.set_cons_zero, List.set_cons_succ, k1_len_str, k1_len_tup, k1_len_lst, k1_len_frl, k1_abs, k1_neg, k1_int, k1_intb, k1_tuple_lst, k1_tuple_tup, k1_list_lst, k1_list_tup, k1_rev, k1_isN, k1_notN, k2_add, k2_add_str, k2_add_lst, k2_sub, k1_isT, k1_notT, k2_mul, k2_muls, k2_fdiv, k2_mod, k2_pow6, k2_pow18, k2_pow12, k2_lt, k2_le, k2_gt, k2_ge, k2_eq, k2_ne, k2_in, k2_notin, k2_idx, idx_0, idx_1, idx_2, idx_3, idt_0, idt_1, idt_2, idt_3, k2_max, slc_str, slc_lst, slc_frl, seq_lst, seq_tup, seq_str, turnE_nx, turnE_ct, turnE_rt, turnE_bk, wipeD, backW, freeT_nil, freeT_cons, freeT1_none, freeT1_fz, freeT1_fzs, lockI, lockD_n, lockD_s, openD_n, openD_s, bindT_1, bindT_2, bindM, size_le, List.foldl_cons, List.foldl_nil, List.all_cons, List.all_nil, List.getElem?_cons_zero, List.getElem?_cons_succ, Option.join_some, Option.join_none, List.zip_cons_cons, List.zip_nil_left, List.length_cons, List.length_nil, List.length_append, Nat.reduceAdd, Nat.reduceEqDiff, Bool.false_eq_true, if_true, if_false, ↓reduceIte, ite_true, ite_false, ki_int_int, ki_int_str, ki_int_bool, ki_int_list, ki_int_tuple, ki_int_dict, ki_bl_int, ki_bl_str, ki_bl_bool, ki_bl_list, ki_bl_tuple, ki_bl_dict, ki_str_int, ki_str_str, ki_str_bool, ki_str_list, ki_str_tuple, ki_str_dict, ki_lst_int, ki_lst_str, ki_lst_bool, ki_lst_list, ki_lst_tuple, ki_lst_dict, ki_frl_int, ki_frl_str, ki_frl_bool, ki_frl_list, ki_frl_tuple, ki_frl_dict, ki_tup_int, ki_tup_str, ki_tup_bool, ki_tup_list, ki_tup_tuple, ki_tup_dict, ki_dct_int, ki_dct_str, ki_dct_bool, ki_dct_list, ki_dct_tuple, ki_dct_dict, ki_non_int, ki_non_str, ki_non_bool, ki_non_list, ki_non_tuple, ki_non_dict, kis_nil, kis_t, kis_f, Z.argsOf, Z.argOf, Z.backTo, Z.outsOf, List.any_nil, List.any_cons, Tlaw_0_6]
    refine ⟨range62_lit (by decide), ?_⟩
    refine Wcomp.by (fun pre acc δ => ∃ (a : Option D) (fs : List Int) (l : List Nat), Small fs ∧ (∀ x ∈ l, x < 10000) ∧ l.length = pre.length ∧ acc = l.map (fun (c : Nat) => D.int c) ∧ δ = [some (.fz, sc), some (.ow, flw fs), some (.ow, .lst [.str n1, .str n2]), some (.ow, .lst [.str m1, .str m2]), some (.fz, .int v), none, fzs a, none, none, none, none, none, none, none, none, none, none, none, none, none]) (by simp [intsD]; exact sz (by decide)) ⟨none, fs, [], hf, by simp, rfl, rfl, rfl⟩ ?_ ?_
    · rintro pre x post acc δ e ⟨a, fs, l, hf, hb, hl, rfl, rfl⟩
      simp only [↓We_var, ↓We_int, ↓We_str, ↓We_bl, ↓We_non, ↓We_gl, ↓We_dspc, ↓We_fs, ↓We_tup, ↓We_lst, ↓We_op1, ↓We_op2, ↓We_sm1, ↓We_slc, ↓We_isi, ↓We_and, ↓We_or, ↓We_one, ↓We_not, ↓We_ife, ↓We_chn, ↓We_pop, ↓We_call, ↓We_callk, ↓We_comp, ↓Wr_var, ↓Wr_int, ↓Wr_str, ↓Wr_bl, ↓Wr_non, ↓Wr_gl, ↓Wr_dspc, ↓Wr_fs, ↓Wr_tup, ↓Wr_lst, ↓Wr_op1, ↓Wr_op2, ↓Wr_sm1, ↓Wr_slc, ↓Wr_isi, ↓Wr_and, ↓Wr_or, ↓Wr_not, ↓Wr_ife, ↓Wr_chn, ↓Wr_pop, ↓Wr_call, ↓Wr_callk, ↓Wr_comp, ↓Ws_set, ↓Ws_unp, ↓Ws_unps, ↓Ws_app, ↓Ws_seti, ↓Ws_setf, ↓Ws_expr, ↓Ws_ife, ↓Ws_for, ↓Ws_while, ↓Ws_ret, ↓Ws_retv, ↓Ws_retn, ↓Ws_brk, ↓Ws_cont, ↓Ws_pass, ↓Wss_cons, ↓Wss_nil, ↓Wes_nil, ↓Wes_cons, ↓Wo_none, ↓Wo_some, ↓Was_nil, ↓Was_ev, ↓Was_pk, ↓Wcall_def, catA_nil, catA_cons, ↓Wsrc_seq, ↓Wsrc_rng1, ↓Wsrc_rng2, ↓Wsrc_zip, ↓seq_nx, ↓seq_rt, ↓seq_bk, ↓seq_ct, ↓seq_ex, ↓W1_some, ↓WJ_some, ↓W1_none, ↓WJ_none, ↓Wf_fz, ↓Wf_lst, ↓Wf_dct, ↓Wf_obj, ↓Wb_bl, ↓Wi_int, ↓Wif_true, ↓Wif_false, ↓Wv_fz, ↓Wv_ow, ↓Wv_owd, ↓Wv_owo, ↓Wsem_ok, ↓setR_fz, ↓setR_fr, ↓Wrv_some, ↓Wpk_some, ↓Wunp_fz, ↓Wunps_lst, ↓WisL_lst, ↓Wapp_ow, ↓Wapp_io, ↓Wseti_ow, ↓Wseti_io, ↓Wretv_fz, ↓Wretv_ow, ↓Wpop_io, ↓Wpop_ow, ↓Wturn_none, ↓Wturn_some, ↓accO_some, ↓accO_none, ↓res_val, ↓res_pk, ↓slotD_0, ↓slotD_s, W1_some, WJ_some, W1_none, WJ_none, Wf_fz, Wf_lst, Wf_dct, Wf_obj, Wb_bl, Wi_int, Wif_true, Wif_false, Wv_fz, Wv_ow, Wv_owd, Wv_owo, Wsem_ok, setR_fz, setR_fr, Wrv_some, Wpk_some, Wunp_fz, Wunps_lst, WisL_lst, Wapp_ow, Wapp_io, Wseti_ow, Wseti_io, Wretv_fz, Wretv_ow, Wpop_io, Wpop_ow, accO_some, accO_none, Int.reduceLT, Int.reduceLE, Nat.reduceLT, Nat.reduceLeDiff, Int.reduceToNat, Int.reduceAdd, Int.reduceSub, Int.reduceMul, Int.reduceNeg, decide_true, decide_false, Bool.or_true, Bool.true_or, Bool.or_false, Bool.false_or, Bool.and_true, Bool.true_and, Bool.and_false, Bool.false_and, Bool.not_true, Bool.not_false, and_true, true_and, Option.map_some, Option.map_none, Option.bind_some, Option.bind_none, List.set_cons_zero, List.set_cons_succ, k1_len_str, k1_len_tup, k1_len_lst, k1_len_frl, k1_abs, k1_neg, k1_int, k1_intb, k1_tuple_lst, k1_tuple_tup, k1_list_lst, k1_list_tup, k1_rev, k1_isN, k1_notN, k2_add, k2_add_str, k2_add_lst, k2_sub, k1_isT, k1_notT, k2_mul, k2_muls, k2_fdiv, k2_mod, k2_pow6, k2_pow18, k2_pow12, k2_lt, k2_le, k2_gt, k2_ge, k2_eq, k2_ne, k2_in, k2_notin, k2_idx, idx_0, idx_1, idx_2, idx_3, idt_0, idt_1, idt_2, idt_3, k2_max, slc_str, slc_lst, slc_frl, seq_lst, seq_tup, seq_str, turnE_nx, turnE_ct, turnE_rt, turnE_bk, wipeD, backW, freeT_nil, freeT_cons, freeT1_none, freeT1_fz, freeT1_fzs, lockI, lockD_n, lockD_s, openD_n, openD_s, bindT_1, bindT_2, bindM, size_le, List.foldl_cons, List.foldl_nil, List.all_cons, List.all_nil, List.getElem?_cons_zero, List.getElem?_cons_succ, Option.join_some, Option.join_none, List.zip_cons_cons, List.zip_nil_left, List.length_cons, List.length_nil, List.length_append, Nat.reduceAdd, Nat.reduceEqDiff, Bool.false_eq_true, if_true, if_false, ↓reduceIte, ite_true, ite_false, ki_int_int, ki_int_str, ki_int_bool, ki_int_list, ki_int_tuple, ki_int_dict, ki_bl_int, ki_bl_str, ki_bl_bool, ki_bl_list, ki_bl_tuple, ki_bl_dict, ki_str_int, ki_str_str, ki_str_bool, ki_str_list, ki_str_tuple, ki_str_dict, ki_lst_int, ki_lst_str, ki_lst_bool, ki_lst_list, ki_lst_tuple, ki_lst_dict, ki_frl_int, ki_frl_str, ki_frl_bool, ki_frl_list, ki_frl_tuple, ki_frl_dict, ki_tup_int, ki_tup_str, ki_tup_bool, ki_tup_list, ki_tup_tuple, ki_tup_dict, ki_dct_int, ki_dct_str, ki_dct_bool, ki_dct_list, ki_dct_tuple, ki_dct_dict, ki_non_int, ki_non_str, ki_non_bool, ki_non_list, ki_non_tuple, ki_non_dict, kis_nil, kis_t, kis_f, Z.argsOf, Z.argOf, Z.backTo, Z.outsOf, List.any_nil, List.any_cons]
      obtain ⟨u, fs, u_lt, hf, e_dr⟩ := draw_ok hf (n := 10000) (by first | decide | omega); simp only [↓We_var, ↓We_int, ↓We_str, ↓We_bl, ↓We_non, ↓We_gl, ↓We_dspc, ↓We_fs, ↓We_tup, ↓We_lst, ↓We_op1, ↓We_op2, ↓We_sm1, ↓We_slc, ↓We_isi, ↓We_and, ↓We_or, ↓We_one, ↓We_not, ↓We_ife, ↓We_chn, ↓We_pop, ↓We_call, ↓We_callk, ↓We_comp, ↓Wr_var, ↓Wr_int, ↓Wr_str, ↓Wr_bl, ↓Wr_non, ↓Wr_gl, ↓Wr_dspc, ↓Wr_fs, ↓Wr_tup, ↓Wr_lst, ↓Wr_op1, ↓Wr_op2, ↓Wr_sm1, ↓Wr_slc, ↓Wr_isi, ↓Wr_and, ↓Wr_or, ↓Wr_not, ↓Wr_ife, ↓Wr_chn, ↓Wr_pop, ↓Wr_call, ↓Wr_callk, ↓Wr_comp, ↓Ws_set, ↓Ws_unp, ↓Ws_unps, ↓Ws_app, ↓Ws_seti, ↓Ws_setf, ↓Ws_expr, ↓Ws_ife, ↓Ws_for, ↓Ws_while, ↓Ws_ret, ↓Ws_retv, ↓Ws_retn, ↓Ws_brk, ↓Ws_cont, ↓Ws_pass, ↓Wss_cons, ↓Wss_nil, ↓Wes_nil, ↓Wes_cons, ↓Wo_none, ↓Wo_some, ↓Was_nil, ↓Was_ev, ↓Was_pk, ↓Wcall_def, catA_nil, catA_cons, ↓Wsrc_seq, ↓Wsrc_rng1, ↓Wsrc_rng2, ↓Wsrc_zip, ↓seq_nx, ↓seq_rt, ↓seq_bk, ↓seq_ct, ↓seq_ex, ↓W1_some, ↓WJ_some, ↓W1_none, ↓WJ_none, ↓Wf_fz, ↓Wf_lst, ↓Wf_dct, ↓Wf_obj, ↓Wb_bl, ↓Wi_int, ↓Wif_true, ↓Wif_false, ↓Wv_fz, ↓Wv_ow, ↓Wv_owd, ↓Wv_owo, ↓Wsem_ok, ↓setR_fz, ↓setR_fr, ↓Wrv_some, ↓Wpk_some, ↓Wunp_fz, ↓Wunps_lst, ↓WisL_lst, ↓Wapp_ow, ↓Wapp_io, ↓Wseti_ow, ↓Wseti_io, ↓Wretv_fz, ↓Wretv_ow, ↓Wpop_io, ↓Wpop_ow, ↓Wturn_none, ↓Wturn_some, ↓accO_some, ↓accO_none, ↓res_val, ↓res_pk, ↓slotD_0, ↓slotD_s, W1_some, WJ_some, W1_none, WJ_none, Wf_fz, Wf_lst, Wf_dct, Wf_obj, Wb_bl, Wi_int, Wif_true, Wif_false, Wv_fz, Wv_ow, Wv_owd, Wv_owo, Wsem_ok, setR_fz, setR_fr, Wrv_some, Wpk_some, Wunp_fz, Wunps_lst, WisL_lst, Wapp_ow, Wapp_io, Wseti_ow, Wseti_io, Wretv_fz, Wretv_ow, Wpop_io, Wpop_ow, accO_some, accO_none, Int.reduceLT, Int.reduceLE, Nat.reduceLT, Nat.reduceLeDiff, Int.reduceToNat, Int.reduceAdd, Int.reduceSub, Int.reduceMul, Int.reduceNeg, decide_true, decide_false, Bool.or_true, Bool.true_or, Bool.or_false, Bool.false_or, Bool.and_true, Bool.true_and, Bool.and_false, Bool.false_and, Bool.not_true, Bool.not_false, and_true, true_and, Option.map_some, Option.map_none, Option.bind_some, Option.bind_none, List.set_cons_zero, List.set_cons_succ, k1_len_str, k1_len_tup, k1_len_lst, k1_len_frl, k1_abs, k1_neg, k1_int, k1_intb, k1_tuple_lst, k1_tuple_tup, k1_list_lst, k1_list_tup, k1_rev, k1_isN, k1_notN, k2_add, k2_add_str, k2_add_lst, k2_sub, k1_isT, k1_notT, k2_mul, k2_muls, k2_fdiv, k2_mod, k2_pow6, k2_pow18, k2_pow12, k2_lt, k2_le, k2_gt, k2_ge, k2_eq, k2_ne, k2_in, k2_notin, k2_idx, idx_0, idx_1, idx_2, idx_3, idt_0, idt_1, idt_2, idt_3, k2_max, slc_str, slc_lst, slc_frl, seq_lst, seq_tup, seq_str, turnE_nx, turnE_ct, turnE_rt, turnE_bk, wipeD, backW, freeT_nil, freeT_cons, freeT1_none, freeT1_fz, freeT1_fzs, lockI, lockD_n, lockD_s, openD_n, openD_s, bindT_1, bindT_2, bindM, size_le, List.foldl_cons, List.foldl_nil, List.all_cons, List.all_nil, List.getElem?_cons_zero, List.getElem?_cons_succ, Option.join_some, Option.join_none, List.zip_cons_cons, List.zip_nil_left, List.length_cons, List.length_nil, List.length_append, Nat.reduceAdd, Nat.reduceEqDiff, Bool.false_eq_true, if_true, if_false, ↓reduceIte, ite_true, ite_false, ki_int_int, ki_int_str, ki_int_bool, ki_int_list, ki_int_tuple, ki_int_dict, ki_bl_int, ki_bl_str, ki_bl_bool, ki_bl_list, ki_bl_tuple, ki_bl_dict, ki_str_int, ki_str_str, ki_str_bool, ki_str_list, ki_str_tuple, ki_str_dict, ki_lst_int, ki_lst_str, ki_lst_bool, ki_lst_list, ki_lst_tuple, ki_lst_dict, ki_frl_int, ki_frl_str, ki_frl_bool, ki_frl_list, ki_frl_tuple, ki_frl_dict, ki_tup_int, ki_tup_str, ki_tup_bool, ki_tup_list, ki_tup_tuple, ki_tup_dict, ki_dct_int, ki_dct_str, ki_dct_bool, ki_dct_list, ki_dct_tuple, ki_dct_dict, ki_non_int, ki_non_str, ki_non_bool, ki_non_list, ki_non_tuple, ki_non_dict, kis_nil, kis_t, kis_f, Z.argsOf, Z.argOf, Z.backTo, Z.outsOf, List.any_nil, List.any_cons, e_dr]; clear e_dr
      refine ⟨some _, fs, l ++ [u], hf, fun d hd => ?_, by simp [hl], by simp [accO], rfl⟩
      rcases List.mem_append.mp hd with h | h
      · exact hb d h
      · rw [List.mem_singleton.mp h]; omega
    rintro acc δ ⟨a6, fs, l, hf, hb, hl, rfl, rfl⟩
    have hl : l.length = 4 := by rw [hl]; simp [intsD]
    obtain ⟨a, b, c, d, rfl⟩ : ∃ a b c d, l = [a, b, c, d] := by
      match l, hl with
      | [a, b, c, d], _ => exact ⟨a, b, c, d, rfl⟩
    have ha := hb a (by simp)
    have hb' := hb b (by simp)
    have hc := hb c (by simp)
    have hd := hb d (by simp)
    obtain ⟨s1, hs1, hr1, q1⟩ := side_ok r1.ok
    obtain ⟨s2, hs2, hr2, q2⟩ := side_ok r2.ok
    obtain ⟨H, hH⟩ : ∃ H : Nat, (1 : Int) + (if (s2 : Int) > s1 then (s2 : Int) else s1) = H := by
      by_cases h : (s2 : Int) > s1
      · exact ⟨1 + s2, by rw [if_pos h]; omega⟩
      · exact ⟨1 + s1, by rw [if_neg h]; omega⟩
    have hH1 : s1 < H ∧ s2 < H ∧ H ≤ 81 := by
      have := r1.len; have := r2.len
      by_cases h : (s2 : Int) > s1
      · rw [if_pos h] at hH; omega
      · rw [if_neg h] at hH; omega
    simp only [List.map_cons, List.map_nil, ↓We_var, ↓We_int, ↓We_str, ↓We_bl, ↓We_non, ↓We_gl, ↓We_dspc, ↓We_fs, ↓We_tup, ↓We_lst, ↓We_op1, ↓We_op2, ↓We_sm1, ↓We_slc, ↓We_isi, ↓We_and, ↓We_or, ↓We_one, ↓We_not, ↓We_ife, ↓We_chn, ↓We_pop, ↓We_call, ↓We_callk, ↓We_comp, ↓Wr_var, ↓Wr_int, ↓Wr_str, ↓Wr_bl, ↓Wr_non, ↓Wr_gl, ↓Wr_dspc, ↓Wr_fs, ↓Wr_tup, ↓Wr_lst, ↓Wr_op1, ↓Wr_op2, ↓Wr_sm1, ↓Wr_slc, ↓Wr_isi, ↓Wr_and, ↓Wr_or, ↓Wr_not, ↓Wr_ife, ↓Wr_chn, ↓Wr_pop, ↓Wr_call, ↓Wr_callk, ↓Wr_comp, ↓Ws_set, ↓Ws_unp, ↓Ws_unps, ↓Ws_app, ↓Ws_seti, ↓Ws_setf, ↓Ws_expr, ↓Ws_ife, ↓Ws_for, ↓Ws_while, ↓Ws_ret, ↓Ws_retv, ↓Ws_retn, ↓Ws_brk, ↓Ws_cont, ↓Ws_pass, ↓Wss_cons, ↓Wss_nil, ↓Wes_nil, ↓Wes_cons, ↓Wo_none, ↓Wo_some, ↓Was_nil, ↓Was_ev, ↓Was_pk, ↓Wcall_def, catA_nil, catA_cons, ↓Wsrc_seq, ↓Wsrc_rng1, ↓Wsrc_rng2, ↓Wsrc_zip, ↓seq_nx, ↓seq_rt, ↓seq_bk, ↓seq_ct, ↓seq_ex, ↓W1_some, ↓WJ_some, ↓W1_none, ↓WJ_none, ↓Wf_fz, ↓Wf_lst, ↓Wf_dct, ↓Wf_obj, ↓Wb_bl, ↓Wi_int, ↓Wif_true, ↓Wif_false, ↓Wv_fz, ↓Wv_ow, ↓Wv_owd, ↓Wv_owo, ↓Wsem_ok, ↓setR_fz, ↓setR_fr, ↓Wrv_some, ↓Wpk_some, ↓Wunp_fz, ↓Wunps_lst, ↓WisL_lst, ↓Wapp_ow, ↓Wapp_io, ↓Wseti_ow, ↓Wseti_io, ↓Wretv_fz, ↓Wretv_ow, ↓Wpop_io, ↓Wpop_ow, ↓Wturn_none, ↓Wturn_some, ↓accO_some, ↓accO_none, ↓res_val, ↓res_pk, ↓slotD_0, ↓slotD_s, W1_some, WJ_some, W1_none, WJ_none, Wf_fz, Wf_lst, Wf_dct, Wf_obj, Wb_bl, Wi_int, Wif_true, Wif_false, Wv_fz, Wv_ow, Wv_owd, Wv_owo, Wsem_ok, setR_fz, setR_fr, Wrv_some, Wpk_some, Wunp_fz, Wunps_lst, WisL_lst, Wapp_ow, Wapp_io, Wseti_ow, Wseti_io, Wretv_fz, Wretv_ow, Wpop_io, Wpop_ow, accO_some, accO_none, Int.reduceLT, Int.reduceLE, Nat.reduceLT, Nat.reduceLeDiff, Int.reduceToNat, Int.reduceAdd, Int.reduceSub, Int.reduceMul, Int.reduceNeg, decide_true, decide_false, Bool.or_true, Bool.true_or, Bool.or_false, Bool.false_or, Bool.and_true, Bool.true_and, Bool.and_false, Bool.false_and, Bool.not_true, Bool.not_false, and_true, true_and, Option.map_some, Option.map_none, Option.bind_some, Option.bind_none, List.set_cons_zero, List.set_cons_succ, k1_len_str, k1_len_tup, k1_len_lst, k1_len_frl, k1_abs, k1_neg, k1_int, k1_intb, k1_tuple_lst, k1_tuple_tup, k1_list_lst, k1_list_tup, k1_rev, k1_isN, k1_notN, k2_add, k2_add_str, k2_add_lst, k2_sub, k1_isT, k1_notT, k2_mul, k2_muls, k2_fdiv, k2_mod, k2_pow6, k2_pow18, k2_pow12, k2_lt, k2_le, k2_gt, k2_ge, k2_eq, k2_ne, k2_in, k2_notin, k2_idx, idx_0, idx_1, idx_2, idx_3, idt_0, idt_1, idt_2, idt_3, k2_max, slc_str, slc_lst, slc_frl, seq_lst, seq_tup, seq_str, turnE_nx, turnE_ct, turnE_rt, turnE_bk, wipeD, backW, freeT_nil, freeT_cons, freeT1_none, freeT1_fz, freeT1_fzs, lockI, lockD_n, lockD_s, openD_n, openD_s, bindT_1, bindT_2, bindM, size_le, List.foldl_cons, List.foldl_nil, List.all_cons, List.all_nil, List.getElem?_cons_zero, List.getElem?_cons_succ, Option.join_some, Option.join_none, List.zip_cons_cons, List.zip_nil_left, List.length_cons, List.length_nil, List.length_append, Nat.reduceAdd, Nat.reduceEqDiff, Bool.false_eq_true, if_true, if_false, ↓reduceIte, ite_true, ite_false, ki_int_int, ki_int_str, ki_int_bool, ki_int_list, ki_int_tuple, ki_int_dict, ki_bl_int, ki_bl_str, ki_bl_bool, ki_bl_list, ki_bl_tuple, ki_bl_dict, ki_str_int, ki_str_str, ki_str_bool, ki_str_list, ki_str_tuple, ki_str_dict, ki_lst_int, ki_lst_str, ki_lst_bool, ki_lst_list, ki_lst_tuple, ki_lst_dict, ki_frl_int, ki_frl_str, ki_frl_bool, ki_frl_list, ki_frl_tuple, ki_frl_dict, ki_tup_int, ki_tup_str, ki_tup_bool, ki_tup_list, ki_tup_tuple, ki_tup_dict, ki_dct_int, ki_dct_str, ki_dct_bool, ki_dct_list, ki_dct_tuple, ki_dct_dict, ki_non_int, ki_non_str, ki_non_bool, ki_non_list, ki_non_tuple, ki_non_dict, kis_nil, kis_t, kis_f, Z.argsOf, Z.argOf, Z.backTo, Z.outsOf, List.any_nil, List.any_cons, Tlaw_0_7, q1, q2, hH, Tlaw_0_8, Tlaw_0_9]
    refine ⟨range62_lit (by decide), ?_⟩
    let P : Nat → DSt → Prop := fun i δ => ∃ (a6 a9 a10 a11 a12 a13 a14 a17 : Option D) (s15 s16 : Sl), δ = [some (.fz, sc), some (.ow, flw fs), some (.ow, .lst [.str n1, .str n2]), some (.ow, .lst [.str m1, .str m2]), some (.fz, .int v), some (.ow, .lst [.int a, .int b, .int c, .int d]), fzs a6, some (.fz, .int H), some (.ow, .lst ([kinds n1 m1 H a b, kinds n2 m2 H c d].take i)), fzs a9, fzs a10, fzs a11, fzs a12, fzs a13, fzs a14, s15, s16, fzs a17, none, none]
    refine Wfor.rng P ⟨none, none, none, none, none, none, none, none, none, none, rfl⟩ ?_ ?_
    · rintro i δ hi ⟨a6, a9, a10, a11, a12, a13, a14, a17, s15, s16, rfl⟩
      have hi : i < 2 := hi
      rw [Int.zero_add]
      obtain ⟨n, m, x, y, r, hx, hy, en, em, ex, ey, ht, hlen⟩ : ∃ (n m : List Nat) (x y : Nat), Rm n m ∧ x < 10000 ∧ y < 10000 ∧ idxD (.lst [.str n1, .str n2]) (.int (i : Int)) = some (.str n) ∧ idxD (.lst [.str m1, .str m2]) (.int (i : Int)) = some (.str m) ∧
          idxD (.lst [.int a, .int b, .int c, .int d]) (.int (2 * (i : Int))) = some (.int x) ∧ idxD (.lst [.int a, .int b, .int c, .int d]) (.int (2 * (i : Int) + 1)) = some (.int y) ∧ [kinds n1 m1 H a b, kinds n2 m2 H c d].take i ++ [kinds n m H x y] = [kinds n1 m1 H a b, kinds n2 m2 H c d].take (i + 1) ∧ ([kinds n1 m1 H a b, kinds n2 m2 H c d].take i).length < sizeL := by
        rcases (show i = 0 ∨ i = 1 by omega) with rfl | rfl
        · exact ⟨n1, m1, a, b, r1, ha, hb', idx_0, idx_0, idx_0, idx_1, rfl, by show 0 < sizeL; decide⟩
        · exact ⟨n2, m2, c, d, r2, hc, hd, idx_1, idx_1, idx_2, idx_3, rfl, by show 1 < sizeL; decide⟩
      generalize [kinds n1 m1 H a b, kinds n2 m2 H c d].take i = told at ht hlen ⊢
      have ln := r.len
      have lm := r.ml
      -- the texts
      obtain ⟨da, eda⟩ : ∃ da, da = decL x := ⟨_, rfl⟩
      obtain ⟨db, edb⟩ : ∃ db, db = decL y := ⟨_, rfl⟩
      have lda : da.length ≤ 9 := by rw [eda]; exact decL_len (by omega)
      have ldb : db.length ≤ 9 := by rw [edb]; exact decL_len (by omega)
      have esx := k1_str_num (n := x) (by omega)
      have esy := k1_str_num (n := y) (by omega)
      rw [← eda] at esx
      rw [← edb] at esy
      obtain ⟨R, eR⟩ : ∃ R, R = List.replicate H 64 := ⟨_, rfl⟩
      have lR : R.length = H := by rw [eR]; simp
      have emul : k2 .mul (.str [64]) (.int (H : Int)) = some (.fz (.str R)) := by
        have e := k2_muls (s := [64]) (i := (H : Int)) (by omega) (by omega) (by simp)
        rw [Int.toNat_natCast, rep64, ← eR] at e
        exact e
      have six : ∀ (h : Nat) (s : List Nat), 0 < h → h ≤ 81 → Sfx s → ∃ t, t = nw n m h s ∧ Ok t ∧ Fis_name.sem [(.fz, .str t)] = .ok (.fz (.bl true)) [.str t] ∧ (h = H → (n1 == t || n2 == t) = false) := by
        intro h s h0 h1 hs
        have hok := nw_ok (h := h) r.ok (by omega) r.bf (by omega) (by omega) hs
        have hnm := nw_name r.nm r.bf hs h0
        refine ⟨_, rfl, hok, ?_, fun hz => ?_⟩
        · have := is_name_ok (d := .str (nw n m h s)) rfl fun z e => by cases e; exact hok
          rw [hnm] at this
          exact this
        · subst hz
          have q1 : n1 ≠ nw n m h s := fun z => by
            have := hr1 h (by rw [z]; exact nw_run)
            omega
          have q2 : n2 ≠ nw n m h s := fun z => by
            have := hr2 h (by rw [z]; exact nw_run)
            omega
          simp [q1, q2]
      have hH0 : 0 < H := by omega
      obtain ⟨t0, g0, o0, i0, z0⟩ := six H [] hH0 hH1.2.2 .nil
      obtain ⟨t1, g1, o1, i1, z1⟩ := six H [63] hH0 hH1.2.2 .q
      obtain ⟨t2, g2, o2, i2', z2⟩ := six H (tailL x y) hH0 hH1.2.2 (.tail hx hy)
      obtain ⟨t3, g3, o3, i3, _⟩ := six 1 [] (by decide) (by decide) .nil
      obtain ⟨t4, g4, o4, i4, _⟩ := six 1 [63] (by decide) (by decide) .q
      obtain ⟨t5, g5, o5, i5, _⟩ := six 1 (tailL x y) (by decide) (by decide) (.tail hx hy)
      have z0 := z0 rfl
      have z1 := z1 rfl
      have z2 := z2 rfl
      obtain ⟨tl, etl⟩ : ∃ tl, tl = tailL x y := ⟨_, rfl⟩
      have p0 : n ++ R ++ m = t0 := by rw [g0, eR, nw, List.append_nil]
      have p1 : t0 ++ [63] = t1 := by rw [g1, ← p0, eR, nw]
      have ptl : [47] ++ da ++ [47] ++ db = tl := by rw [etl, eda, edb, tailL]; simp
      have p2 : t0 ++ tl = t2 := by rw [g2, ← p0, eR, nw, etl]
      have p3 : n ++ [64] ++ m = t3 := by rw [g3, nw, List.append_nil]; rfl
      have p4 : t3 ++ [63] = t4 := by rw [g4, ← p3, nw]; rfl
      have p5 : t3 ++ tl = t5 := by rw [g5, ← p3, nw, etl]; rfl
      have ltl : tl.length ≤ 20 := by rw [← ptl]; simp; omega
      have lt0 : t0.length ≤ 200 := by rw [← p0]; simp; omega
      have lt3 : t3.length ≤ 200 := by rw [← p3]; simp; omega
      have y1 : 1 + da.length ≤ sizeL := sz (by omega)
      have y2 : 1 + da.length + 1 ≤ sizeL := sz (by omega)
      have y3 : 1 + da.length + 1 + db.length ≤ sizeL := sz (by omega)
      have y4 : n.length + R.length ≤ sizeL := sz (by omega)
      have y5 : n.length + R.length + m.length ≤ sizeL := sz (by omega)
      have y6 : t0.length + 1 ≤ sizeL := sz (by omega)
      have y7 : t0.length + tl.length ≤ sizeL := sz (by omega)
      have y8 : n.length + 1 ≤ sizeL := sz (by omega)
      have y9 : n.length + 1 + m.length ≤ sizeL := sz (by omega)
      have y10 : t3.length + 1 ≤ sizeL := sz (by omega)
      have y11 : t3.length + tl.length ≤ sizeL := sz (by omega)
      have c0 := marked_k (n := n) (m := m) (h := H) (by omega) (by omega) (by omega)
      have c1 := asked_k (n := n) (m := m) (h := H) (by omega) (by omega) (by omega)
      have c2 := stepped_k (n := n) (m := m) (a := x) (b := y) (h := H) (by omega) (by omega) (by omega) (by omega) (by omega)
      have c3 := marked_d (n := n) (m := m) (by omega) (by omega)
      have c4 := asked_d (n := n) (m := m) (by omega) (by omega)
      have c5 := stepped_d (n := n) (m := m) (a := x) (b := y) (by omega) (by omega) (by omega) (by omega)
      rw [← g0] at c0; rw [← g1] at c1; rw [← g2] at c2; rw [← g3] at c3; rw [← g4] at c4; rw [← g5] at c5
      have hkin : kinds n m H x y = .lst [.str t0, .str t1, .str t2] := by rw [kinds, ← g0, ← g1, ← g2]
      rw [hkin] at ht
      clear g0 g1 g2 g3 g4 g5
      simp only [↓We_var, ↓We_int, ↓We_str, ↓We_bl, ↓We_non, ↓We_gl, ↓We_dspc, ↓We_fs, ↓We_tup, ↓We_lst, ↓We_op1, ↓We_op2, ↓We_sm1, ↓We_slc, ↓We_isi, ↓We_and, ↓We_or, ↓We_one, ↓We_not, ↓We_ife, ↓We_chn, ↓We_pop, ↓We_call, ↓We_callk, ↓We_comp, ↓Wr_var, ↓Wr_int, ↓Wr_str, ↓Wr_bl, ↓Wr_non, ↓Wr_gl, ↓Wr_dspc, ↓Wr_fs, ↓Wr_tup, ↓Wr_lst, ↓Wr_op1, ↓Wr_op2, ↓Wr_sm1, ↓Wr_slc, ↓Wr_isi, ↓Wr_and, ↓Wr_or, ↓Wr_not, ↓Wr_ife, ↓Wr_chn, ↓Wr_pop, ↓Wr_call, ↓Wr_callk, ↓Wr_comp, ↓Ws_set, ↓Ws_unp, ↓Ws_unps, ↓Ws_app, ↓Ws_seti, ↓Ws_setf, ↓Ws_expr, ↓Ws_ife, ↓Ws_for, ↓Ws_while, ↓Ws_ret, ↓Ws_retv, ↓Ws_retn, ↓Ws_brk, ↓Ws_cont, ↓Ws_pass, ↓Wss_cons, ↓Wss_nil, ↓Wes_nil, ↓Wes_cons, ↓Wo_none, ↓Wo_some, ↓Was_nil, ↓Was_ev, ↓Was_pk, ↓Wcall_def, catA_nil, catA_cons, ↓Wsrc_seq, ↓Wsrc_rng1, ↓Wsrc_rng2, ↓Wsrc_zip, ↓seq_nx, ↓seq_rt, ↓seq_bk, ↓seq_ct, ↓seq_ex, ↓W1_some, ↓WJ_some, ↓W1_none, ↓WJ_none, ↓Wf_fz, ↓Wf_lst, ↓Wf_dct, ↓Wf_obj, ↓Wb_bl, ↓Wi_int, ↓Wif_true, ↓Wif_false, ↓Wv_fz, ↓Wv_ow, ↓Wv_owd, ↓Wv_owo, ↓Wsem_ok, ↓setR_fz, ↓setR_fr, ↓Wrv_some, ↓Wpk_some, ↓Wunp_fz, ↓Wunps_lst, ↓WisL_lst, ↓Wapp_ow, ↓Wapp_io, ↓Wseti_ow, ↓Wseti_io, ↓Wretv_fz, ↓Wretv_ow, ↓Wpop_io, ↓Wpop_ow, ↓Wturn_none, ↓Wturn_some, ↓accO_some, ↓accO_none, ↓res_val, ↓res_pk, ↓slotD_0, ↓slotD_s, W1_some, WJ_some, W1_none, WJ_none, Wf_fz, Wf_lst, Wf_dct, Wf_obj, Wb_bl, Wi_int, Wif_true, Wif_false, Wv_fz, Wv_ow, Wv_owd, Wv_owo, Wsem_ok, setR_fz, setR_fr, Wrv_some, Wpk_some, Wunp_fz, Wunps_lst, WisL_lst, Wapp_ow, Wapp_io, Wseti_ow, Wseti_io, Wretv_fz, Wretv_ow, Wpop_io, Wpop_ow, accO_some, accO_none, Int.reduceLT, Int.reduceLE, Nat.reduceLT, Nat.reduceLeDiff, Int.reduceToNat, Int.reduceAdd, Int.reduceSub, Int.reduceMul, Int.reduceNeg, decide_true, decide_false, Bool.or_true, Bool.true_or, Bool.or_false, Bool.false_or, Bool.and_true, Bool.true_and, Bool.and_false, Bool.false_and, Bool.not_true, Bool.not_false, and_true, true_and, Option.map_some, Option.map_none, Option.bind_some, Option.bind_none, List.set_cons_zero, List.set_cons_succ, k1_len_str, k1_len_tup, k1_len_lst, k1_len_frl, k1_abs, k1_neg, k1_int, k1_intb, k1_tuple_lst, k1_tuple_tup, k1_list_lst, k1_list_tup, k1_rev, k1_isN, k1_notN, k2_add, k2_add_str, k2_add_lst, k2_sub, k1_isT, k1_notT, k2_mul, k2_muls, k2_fdiv, k2_mod, k2_pow6, k2_pow18, k2_pow12, k2_lt, k2_le, k2_gt, k2_ge, k2_eq, k2_ne, k2_in, k2_notin, k2_idx, idx_0, idx_1, idx_2, idx_3, idt_0, idt_1, idt_2, idt_3, k2_max, slc_str, slc_lst, slc_frl, seq_lst, seq_tup, seq_str, turnE_nx, turnE_ct, turnE_rt, turnE_bk, wipeD, backW, freeT_nil, freeT_cons, freeT1_none, freeT1_fz, freeT1_fzs, lockI, lockD_n, lockD_s, openD_n, openD_s, bindT_1, bindT_2, bindM, size_le, List.foldl_cons, List.foldl_nil, List.all_cons, List.all_nil, List.getElem?_cons_zero, List.getElem?_cons_succ, Option.join_some, Option.join_none, List.zip_cons_cons, List.zip_nil_left, List.length_cons, List.length_nil, List.length_append, Nat.reduceAdd, Nat.reduceEqDiff, Bool.false_eq_true, if_true, if_false, ↓reduceIte, ite_true, ite_false, ki_int_int, ki_int_str, ki_int_bool, ki_int_list, ki_int_tuple, ki_int_dict, ki_bl_int, ki_bl_str, ki_bl_bool, ki_bl_list, ki_bl_tuple, ki_bl_dict, ki_str_int, ki_str_str, ki_str_bool, ki_str_list, ki_str_tuple, ki_str_dict, ki_lst_int, ki_lst_str, ki_lst_bool, ki_lst_list, ki_lst_tuple, ki_lst_dict, ki_frl_int, ki_frl_str, ki_frl_bool, ki_frl_list, ki_frl_tuple, ki_frl_dict, ki_tup_int, ki_tup_str, ki_tup_bool, ki_tup_list, ki_tup_tuple, ki_tup_dict, ki_dct_int, ki_dct_str, ki_dct_bool, ki_dct_list, ki_dct_tuple, ki_dct_dict, ki_non_int, ki_non_str, ki_non_bool, ki_non_list, ki_non_tuple, ki_non_dict, kis_nil, kis_t, kis_f, Z.argsOf, Z.argOf, Z.backTo, Z.outsOf, List.any_nil, List.any_cons, Tlaw_3_0, en, Tlaw_3_1, em, Tlaw_3_2, i2, ex, Tlaw_3_3, ey, Tlaw_3_4, esx, esy, y1, y2, y3, ptl, Tlaw_3_5, emul, y4, y5, p0]
      simp only [↓We_var, ↓We_int, ↓We_str, ↓We_bl, ↓We_non, ↓We_gl, ↓We_dspc, ↓We_fs, ↓We_tup, ↓We_lst, ↓We_op1, ↓We_op2, ↓We_sm1, ↓We_slc, ↓We_isi, ↓We_and, ↓We_or, ↓We_one, ↓We_not, ↓We_ife, ↓We_chn, ↓We_pop, ↓We_call, ↓We_callk, ↓We_comp, ↓Wr_var, ↓Wr_int, ↓Wr_str, ↓Wr_bl, ↓Wr_non, ↓Wr_gl, ↓Wr_dspc, ↓Wr_fs, ↓Wr_tup, ↓Wr_lst, ↓Wr_op1, ↓Wr_op2, ↓Wr_sm1, ↓Wr_slc, ↓Wr_isi, ↓Wr_and, ↓Wr_or, ↓Wr_not, ↓Wr_ife, ↓Wr_chn, ↓Wr_pop, ↓Wr_call, ↓Wr_callk, ↓Wr_comp, ↓Ws_set, ↓Ws_unp, ↓Ws_unps, ↓Ws_app, ↓Ws_seti, ↓Ws_setf, ↓Ws_expr, ↓Ws_ife, ↓Ws_for, ↓Ws_while, ↓Ws_ret, ↓Ws_retv, ↓Ws_retn, ↓Ws_brk, ↓Ws_cont, ↓Ws_pass, ↓Wss_cons, ↓Wss_nil, ↓Wes_nil, ↓Wes_cons, ↓Wo_none, ↓Wo_some, ↓Was_nil, ↓Was_ev, ↓Was_pk, ↓Wcall_def, catA_nil, catA_cons, ↓Wsrc_seq, ↓Wsrc_rng1, ↓Wsrc_rng2, ↓Wsrc_zip, ↓seq_nx, ↓seq_rt, ↓seq_bk, ↓seq_ct, ↓seq_ex, ↓W1_some, ↓WJ_some, ↓W1_none, ↓WJ_none, ↓Wf_fz, ↓Wf_lst, ↓Wf_dct, ↓Wf_obj, ↓Wb_bl, ↓Wi_int, ↓Wif_true, ↓Wif_false, ↓Wv_fz, ↓Wv_ow, ↓Wv_owd, ↓Wv_owo, ↓Wsem_ok, ↓setR_fz, ↓setR_fr, ↓Wrv_some, ↓Wpk_some, ↓Wunp_fz, ↓Wunps_lst, ↓WisL_lst, ↓Wapp_ow, ↓Wapp_io, ↓Wseti_ow, ↓Wseti_io, ↓Wretv_fz, ↓Wretv_ow, ↓Wpop_io, ↓Wpop_ow, ↓Wturn_none, ↓Wturn_some, ↓accO_some, ↓accO_none, ↓res_val, ↓res_pk, ↓slotD_0, ↓slotD_s, W1_some, WJ_some, W1_none, WJ_none, Wf_fz, Wf_lst, Wf_dct, Wf_obj, Wb_bl, Wi_int, Wif_true, Wif_false, Wv_fz, Wv_ow, Wv_owd, Wv_owo, Wsem_ok, setR_fz, setR_fr, Wrv_some, Wpk_some, Wunp_fz, Wunps_lst, WisL_lst, Wapp_ow, Wapp_io, Wseti_ow, Wseti_io, Wretv_fz, Wretv_ow, Wpop_io, Wpop_ow, accO_some, accO_none, Int.reduceLT, Int.reduceLE, Nat.reduceLT, Nat.reduceLeDiff, Int.reduceToNat, Int.reduceAdd, Int.reduceSub, Int.reduceMul, Int.reduceNeg, decide_true, decide_false, Bool.or_true, Bool.true_or, Bool.or_false, Bool.false_or, Bool.and_true, Bool.true_and, Bool.and_false, Bool.false_and, Bool.not_true, Bool.not_false, and_true, true_and, Option.map_some, Option.map_none, Option.bind_some, Option.bind_none, List.set_cons_zero, List.set_cons_succ, k1_len_str, k1_len_tup, k1_len_lst, k1_len_frl, k1_abs, k1_neg, k1_int, k1_intb, k1_tuple_lst, k1_tuple_tup, k1_list_lst, k1_list_tup, k1_rev, k1_isN, k1_notN, k2_add, k2_add_str, k2_add_lst, k2_sub, k1_isT, k1_notT, k2_mul, k2_muls, k2_fdiv, k2_mod, k2_pow6, k2_pow18, k2_pow12, k2_lt, k2_le, k2_gt, k2_ge, k2_eq, k2_ne, k2_in, k2_notin, k2_idx, idx_0, idx_1, idx_2, idx_3, idt_0, idt_1, idt_2, idt_3, k2_max, slc_str, slc_lst, slc_frl, seq_lst, seq_tup, seq_str, turnE_nx, turnE_ct, turnE_rt, turnE_bk, wipeD, backW, freeT_nil, freeT_cons, freeT1_none, freeT1_fz, freeT1_fzs, lockI, lockD_n, lockD_s, openD_n, openD_s, bindT_1, bindT_2, bindM, size_le, List.foldl_cons, List.foldl_nil, List.all_cons, List.all_nil, List.getElem?_cons_zero, List.getElem?_cons_succ, Option.join_some, Option.join_none, List.zip_cons_cons, List.zip_nil_left, List.length_cons, List.length_nil, List.length_append, Nat.reduceAdd, Nat.reduceEqDiff, Bool.false_eq_true, if_true, if_false, ↓reduceIte, ite_true, ite_false, ki_int_int, ki_int_str, ki_int_bool, ki_int_list, ki_int_tuple, ki_int_dict, ki_bl_int, ki_bl_str, ki_bl_bool, ki_bl_list, ki_bl_tuple, ki_bl_dict, ki_str_int, ki_str_str, ki_str_bool, ki_str_list, ki_str_tuple, ki_str_dict, ki_lst_int, ki_lst_str, ki_lst_bool, ki_lst_list, ki_lst_tuple, ki_lst_dict, ki_frl_int, ki_frl_str, ki_frl_bool, ki_frl_list, ki_frl_tuple, ki_frl_dict, ki_tup_int, ki_tup_str, ki_tup_bool, ki_tup_list, ki_tup_tuple, ki_tup_dict, ki_dct_int, ki_dct_str, ki_dct_bool, ki_dct_list, ki_dct_tuple, ki_dct_dict, ki_non_int, ki_non_str, ki_non_bool, ki_non_list, ki_non_tuple, ki_non_dict, kis_nil, kis_t, kis_f, Z.argsOf, Z.argOf, Z.backTo, Z.outsOf, List.any_nil, List.any_cons, Tlaw_3_6, y6, y7, y8, y9, p3, y10, y11, p1, p2, p4, p5]
      simp only [↓We_var, ↓We_int, ↓We_str, ↓We_bl, ↓We_non, ↓We_gl, ↓We_dspc, ↓We_fs, ↓We_tup, ↓We_lst, ↓We_op1, ↓We_op2, ↓We_sm1, ↓We_slc, ↓We_isi, ↓We_and, ↓We_or, ↓We_one, ↓We_not, ↓We_ife, ↓We_chn, ↓We_pop, ↓We_call, ↓We_callk, ↓We_comp, ↓Wr_var, ↓Wr_int, ↓Wr_str, ↓Wr_bl, ↓Wr_non, ↓Wr_gl, ↓Wr_dspc, ↓Wr_fs, ↓Wr_tup, ↓Wr_lst, ↓Wr_op1, ↓Wr_op2, ↓Wr_sm1, ↓Wr_slc, ↓Wr_isi, ↓Wr_and, ↓Wr_or, ↓Wr_not, ↓Wr_ife, ↓Wr_chn, ↓Wr_pop, ↓Wr_call, ↓Wr_callk, ↓Wr_comp, ↓Ws_set, ↓Ws_unp, ↓Ws_unps, ↓Ws_app, ↓Ws_seti, ↓Ws_setf, ↓Ws_expr, ↓Ws_ife, ↓Ws_for, ↓Ws_while, ↓Ws_ret, ↓Ws_retv, ↓Ws_retn, ↓Ws_brk, ↓Ws_cont, ↓Ws_pass, ↓Wss_cons, ↓Wss_nil, ↓Wes_nil, ↓Wes_cons, ↓Wo_none, ↓Wo_some, ↓Was_nil, ↓Was_ev, ↓Was_pk, ↓Wcall_def, catA_nil, catA_cons, ↓Wsrc_seq, ↓Wsrc_rng1, ↓Wsrc_rng2, ↓Wsrc_zip, ↓seq_nx, ↓seq_rt, ↓seq_bk, ↓seq_ct, ↓seq_ex, ↓W1_some, ↓WJ_some, ↓W1_none, ↓WJ_none, ↓Wf_fz, ↓Wf_lst, ↓Wf_dct, ↓Wf_obj, ↓Wb_bl, ↓Wi_int, ↓Wif_true, ↓Wif_false, ↓Wv_fz, ↓Wv_ow, ↓Wv_owd, ↓Wv_owo, ↓Wsem_ok, ↓setR_fz, ↓setR_fr, ↓Wrv_some, ↓Wpk_some, ↓Wunp_fz, ↓Wunps_lst, ↓WisL_lst, ↓Wapp_ow, ↓Wapp_io, ↓Wseti_ow, ↓Wseti_io, ↓Wretv_fz, ↓Wretv_ow, ↓Wpop_io, ↓Wpop_ow, ↓Wturn_none, ↓Wturn_some, ↓accO_some, ↓accO_none, ↓res_val, ↓res_pk, ↓slotD_0, ↓slotD_s, W1_some, WJ_some, W1_none, WJ_none, Wf_fz, Wf_lst, Wf_dct, Wf_obj, Wb_bl, Wi_int, Wif_true, Wif_false, Wv_fz, Wv_ow, Wv_owd, Wv_owo, Wsem_ok, setR_fz, setR_fr, Wrv_some, Wpk_some, Wunp_fz, Wunps_lst, WisL_lst, Wapp_ow, Wapp_io, Wseti_ow, Wseti_io, Wretv_fz, Wretv_ow, Wpop_io, Wpop_ow, accO_some, accO_none, Int.reduceLT, Int.reduceLE, Nat.reduceLT, Nat.reduceLeDiff, Int.reduceToNat, Int.reduceAdd, Int.reduceSub, Int.reduceMul, Int.reduceNeg, decide_true, decide_false, Bool.or_true, Bool.true_or, Bool.or_false, Bool.false_or, Bool.and_true, Bool.true_and, Bool.and_false, Bool.false_and, Bool.not_true, Bool.not_false, and_true, true_and, Option.map_some, Option.map_none, Option.bind_some, Option.bind_none, List.set_cons_zero, List.set_cons_succ, k1_len_str, k1_len_tup, k1_len_lst, k1_len_frl, k1_abs, k1_neg, k1_int, k1_intb, k1_tuple_lst, k1_tuple_tup, k1_list_lst, k1_list_tup, k1_rev, k1_isN, k1_notN, k2_add, k2_add_str, k2_add_lst, k2_sub, k1_isT, k1_notT, k2_mul, k2_muls, k2_fdiv, k2_mod, k2_pow6, k2_pow18, k2_pow12, k2_lt, k2_le, k2_gt, k2_ge, k2_eq, k2_ne, k2_in, k2_notin, k2_idx, idx_0, idx_1, idx_2, idx_3, idt_0, idt_1, idt_2, idt_3, k2_max, slc_str, slc_lst, slc_frl, seq_lst, seq_tup, seq_str, turnE_nx, turnE_ct, turnE_rt, turnE_bk, wipeD, backW, freeT_nil, freeT_cons, freeT1_none, freeT1_fz, freeT1_fzs, lockI, lockD_n, lockD_s, openD_n, openD_s, bindT_1, bindT_2, bindM, size_le, List.foldl_cons, List.foldl_nil, List.all_cons, List.all_nil, List.getElem?_cons_zero, List.getElem?_cons_succ, Option.join_some, Option.join_none, List.zip_cons_cons, List.zip_nil_left, List.length_cons, List.length_nil, List.length_append, Nat.reduceAdd, Nat.reduceEqDiff, Bool.false_eq_true, if_true, if_false, ↓reduceIte, ite_true, ite_false, ki_int_int, ki_int_str, ki_int_bool, ki_int_list, ki_int_tuple, ki_int_dict, ki_bl_int, ki_bl_str, ki_bl_bool, ki_bl_list, ki_bl_tuple, ki_bl_dict, ki_str_int, ki_str_str, ki_str_bool, ki_str_list, ki_str_tuple, ki_str_dict, ki_lst_int, ki_lst_str, ki_lst_bool, ki_lst_list, ki_lst_tuple, ki_lst_dict, ki_frl_int, ki_frl_str, ki_frl_bool, ki_frl_list, ki_frl_tuple, ki_frl_dict, ki_tup_int, ki_tup_str, ki_tup_bool, ki_tup_list, ki_tup_tuple, ki_tup_dict, ki_dct_int, ki_dct_str, ki_dct_bool, ki_dct_list, ki_dct_tuple, ki_dct_dict, ki_non_int, ki_non_str, ki_non_bool, ki_non_list, ki_non_tuple, ki_non_dict, kis_nil, kis_t, kis_f, Z.argsOf, Z.argOf, Z.backTo, Z.outsOf, List.any_nil, List.any_cons, Tlaw_3_7, c0, c1, Tlaw_3_8, c2, Tlaw_3_9, c3, c4, c5, List.cons_append, List.nil_append, Tlaw_3_10]
      refine ⟨range62_lit (by decide), ?_⟩
      refine Wfor.rng (fun j δ => ∃ (a17 : Option D), δ = [some (.fz, sc), some (.ow, flw fs), some (.ow, .lst [.str n1, .str n2]), some (.ow, .lst [.str m1, .str m2]), some (.fz, .int v), some (.ow, .lst [.int a, .int b, .int c, .int d]), some (.fz, .int i), some (.fz, .int H), some (.ow, .lst told), some (.fz, .str n), some (.fz, .str m), some (.fz, .int x), some (.fz, .int y), some (.fz, .str tl), some (.fz, .str t0), some (.ow, .lst [.str t0, .str t1, .str t2, .str t3, .str t4, .str t5]), some (.ow, .lst [.str t0, .str t1, .str t2, .str t3, .str t4, .str t5]), fzs a17, none, none]) ⟨a17, rfl⟩ ?_ ?_
      · rintro j δ hj ⟨a17, rfl⟩
        have hj : j < 6 := hj
        rw [Int.zero_add]
        obtain ⟨t, et, ot, it, zt⟩ : ∃ t, idxD (.lst [.str t0, .str t1, .str t2, .str t3, .str t4, .str t5]) (.int (j : Int)) = some (.str t) ∧ Ok t ∧ Fis_name.sem [(.fz, .str t)] = .ok (.fz (.bl true)) [.str t] ∧ (j < 3 → (n1 == t || n2 == t) = false) := by
          have get := lst_get (m := [D.str t0, .str t1, .str t2, .str t3, .str t4, .str t5]) (i := j) (by simp; omega)
          rcases (show j = 0 ∨ j = 1 ∨ j = 2 ∨ j = 3 ∨ j = 4 ∨ j = 5 by omega) with rfl | rfl | rfl | rfl | rfl | rfl
          · exact ⟨t0, get, o0, i0, fun _ => z0⟩
          · exact ⟨t1, get, o1, i1, fun _ => z1⟩
          · exact ⟨t2, get, o2, i2', fun _ => z2⟩
          · exact ⟨t3, get, o3, i3, fun h => by omega⟩
          · exact ⟨t4, get, o4, i4, fun h => by omega⟩
          · exact ⟨t5, get, o5, i5, fun h => by omega⟩
        simp only [↓We_var, ↓We_int, ↓We_str, ↓We_bl, ↓We_non, ↓We_gl, ↓We_dspc, ↓We_fs, ↓We_tup, ↓We_lst, ↓We_op1, ↓We_op2, ↓We_sm1, ↓We_slc, ↓We_isi, ↓We_and, ↓We_or, ↓We_one, ↓We_not, ↓We_ife, ↓We_chn, ↓We_pop, ↓We_call, ↓We_callk, ↓We_comp, ↓Wr_var, ↓Wr_int, ↓Wr_str, ↓Wr_bl, ↓Wr_non, ↓Wr_gl, ↓Wr_dspc, ↓Wr_fs, ↓Wr_tup, ↓Wr_lst, ↓Wr_op1, ↓Wr_op2, ↓Wr_sm1, ↓Wr_slc, ↓Wr_isi, ↓Wr_and, ↓Wr_or, ↓Wr_not, ↓Wr_ife, ↓Wr_chn, ↓Wr_pop, ↓Wr_call, ↓Wr_callk, ↓Wr_comp, ↓Ws_set, ↓Ws_unp, ↓Ws_unps, ↓Ws_app, ↓Ws_seti, ↓Ws_setf, ↓Ws_expr, ↓Ws_ife, ↓Ws_for, ↓Ws_while, ↓Ws_ret, ↓Ws_retv, ↓Ws_retn, ↓Ws_brk, ↓Ws_cont, ↓Ws_pass, ↓Wss_cons, ↓Wss_nil, ↓Wes_nil, ↓Wes_cons, ↓Wo_none, ↓Wo_some, ↓Was_nil, ↓Was_ev, ↓Was_pk, ↓Wcall_def, catA_nil, catA_cons, ↓Wsrc_seq, ↓Wsrc_rng1, ↓Wsrc_rng2, ↓Wsrc_zip, ↓seq_nx, ↓seq_rt, ↓seq_bk, ↓seq_ct, ↓seq_ex, ↓W1_some, ↓WJ_some, ↓W1_none, ↓WJ_none, ↓Wf_fz, ↓Wf_lst, ↓Wf_dct, ↓Wf_obj, ↓Wb_bl, ↓Wi_int, ↓Wif_true, ↓Wif_false, ↓Wv_fz, ↓Wv_ow, ↓Wv_owd, ↓Wv_owo, ↓Wsem_ok, ↓setR_fz, ↓setR_fr, ↓Wrv_some, ↓Wpk_some, ↓Wunp_fz, ↓Wunps_lst, ↓WisL_lst, ↓Wapp_ow, ↓Wapp_io, ↓Wseti_ow, ↓Wseti_io, ↓Wretv_fz, ↓Wretv_ow, ↓Wpop_io, ↓Wpop_ow, ↓Wturn_none, ↓Wturn_some, ↓accO_some, ↓accO_none, ↓res_val, ↓res_pk, ↓slotD_0, ↓slotD_s, W1_some, WJ_some, W1_none, WJ_none, Wf_fz, Wf_lst, Wf_dct, Wf_obj, Wb_bl, Wi_int, Wif_true, Wif_false, Wv_fz, Wv_ow, Wv_owd, Wv_owo, Wsem_ok, setR_fz, setR_fr, Wrv_some, Wpk_some, Wunp_fz, Wunps_lst, WisL_lst, Wapp_ow, Wapp_io, Wseti_ow, Wseti_io, Wretv_fz, Wretv_ow, Wpop_io, Wpop_ow, accO_some, accO_none, Int.reduceLT, Int.reduceLE, Nat.reduceLT, Nat.reduceLeDiff, Int.reduceToNat, Int.reduceAdd, Int.reduceSub, Int.reduceMul, Int.reduceNeg, decide_true, decide_false, Bool.or_true, Bool.true_or, Bool.or_false, Bool.false_or, Bool.and_true, Bool.true_and, Bool.and_false, Bool.false_and, Bool.not_true, Bool.not_false, and_true, true_and, Option.map_some, Option.map_none, Option.bind_some, Option.bind_none, List.set_cons_zero, List.set_cons_succ, k1_len_str, k1_len_tup, k1_len_lst, k1_len_frl, k1_abs, k1_neg, k1_int, k1_intb, k1_tuple_lst, k1_tuple_tup, k1_list_lst, k1_list_tup, k1_rev, k1_isN, k1_notN, k2_add, k2_add_str, k2_add_lst, k2_sub, k1_isT, k1_notT, k2_mul, k2_muls, k2_fdiv, k2_mod, k2_pow6, k2_pow18, k2_pow12, k2_lt, k2_le, k2_gt, k2_ge, k2_eq, k2_ne, k2_in, k2_notin, k2_idx, idx_0, idx_1, idx_2, idx_3, idt_0, idt_1, idt_2, idt_3, k2_max, slc_str, slc_lst, slc_frl, seq_lst, seq_tup, seq_str, turnE_nx, turnE_ct, turnE_rt, turnE_bk, wipeD, backW, freeT_nil, freeT_cons, freeT1_none, freeT1_fz, freeT1_fzs, lockI, lockD_n, lockD_s, openD_n, openD_s, bindT_1, bindT_2, bindM, size_le, List.foldl_cons, List.foldl_nil, List.all_cons, List.all_nil, List.getElem?_cons_zero, List.getElem?_cons_succ, Option.join_some, Option.join_none, List.zip_cons_cons, List.zip_nil_left, List.length_cons, List.length_nil, List.length_append, Nat.reduceAdd, Nat.reduceEqDiff, Bool.false_eq_true, if_true, if_false, ↓reduceIte, ite_true, ite_false, ki_int_int, ki_int_str, ki_int_bool, ki_int_list, ki_int_tuple, ki_int_dict, ki_bl_int, ki_bl_str, ki_bl_bool, ki_bl_list, ki_bl_tuple, ki_bl_dict, ki_str_int, ki_str_str, ki_str_bool, ki_str_list, ki_str_tuple, ki_str_dict, ki_lst_int, ki_lst_str, ki_lst_bool, ki_lst_list, ki_lst_tuple, ki_lst_dict, ki_frl_int, ki_frl_str, ki_frl_bool, ki_frl_list, ki_frl_tuple, ki_frl_dict, ki_tup_int, ki_tup_str, ki_tup_bool, ki_tup_list, ki_tup_tuple, ki_tup_dict, ki_dct_int, ki_dct_str, ki_dct_bool, ki_dct_list, ki_dct_tuple, ki_dct_dict, ki_non_int, ki_non_str, ki_non_bool, ki_non_list, ki_non_tuple, ki_non_dict, kis_nil, kis_t, kis_f, Z.argsOf, Z.argOf, Z.backTo, Z.outsOf, List.any_nil, List.any_cons, Tlaw_4_0, et, eqD_str ot.1 ot.1, it, Tlaw_5_0, Tlaw_4_1]
        refine ⟨fun h => ?_, fun h => ?_⟩
        · have h : j < 3 := by have := of_decide_eq_true h; omega
          simp only [↓We_var, ↓We_int, ↓We_str, ↓We_bl, ↓We_non, ↓We_gl, ↓We_dspc, ↓We_fs, ↓We_tup, ↓We_lst, ↓We_op1, ↓We_op2, ↓We_sm1, ↓We_slc, ↓We_isi, ↓We_and, ↓We_or, ↓We_one, ↓We_not, ↓We_ife, ↓We_chn, ↓We_pop, ↓We_call, ↓We_callk, ↓We_comp, ↓Wr_var, ↓Wr_int, ↓Wr_str, ↓Wr_bl, ↓Wr_non, ↓Wr_gl, ↓Wr_dspc, ↓Wr_fs, ↓Wr_tup, ↓Wr_lst, ↓Wr_op1, ↓Wr_op2, ↓Wr_sm1, ↓Wr_slc, ↓Wr_isi, ↓Wr_and, ↓Wr_or, ↓Wr_not, ↓Wr_ife, ↓Wr_chn, ↓Wr_pop, ↓Wr_call, ↓Wr_callk, ↓Wr_comp, ↓Ws_set, ↓Ws_unp, ↓Ws_unps, ↓Ws_app, ↓Ws_seti, ↓Ws_setf, ↓Ws_expr, ↓Ws_ife, ↓Ws_for, ↓Ws_while, ↓Ws_ret, ↓Ws_retv, ↓Ws_retn, ↓Ws_brk, ↓Ws_cont, ↓Ws_pass, ↓Wss_cons, ↓Wss_nil, ↓Wes_nil, ↓Wes_cons, ↓Wo_none, ↓Wo_some, ↓Was_nil, ↓Was_ev, ↓Was_pk, ↓Wcall_def, catA_nil, catA_cons, ↓Wsrc_seq, ↓Wsrc_rng1, ↓Wsrc_rng2, ↓Wsrc_zip, ↓seq_nx, ↓seq_rt, ↓seq_bk, ↓seq_ct, ↓seq_ex, ↓W1_some, ↓WJ_some, ↓W1_none, ↓WJ_none, ↓Wf_fz, ↓Wf_lst, ↓Wf_dct, ↓Wf_obj, ↓Wb_bl, ↓Wi_int, ↓Wif_true, ↓Wif_false, ↓Wv_fz, ↓Wv_ow, ↓Wv_owd, ↓Wv_owo, ↓Wsem_ok, ↓setR_fz, ↓setR_fr, ↓Wrv_some, ↓Wpk_some, ↓Wunp_fz, ↓Wunps_lst, ↓WisL_lst, ↓Wapp_ow, ↓Wapp_io, ↓Wseti_ow, ↓Wseti_io, ↓Wretv_fz, ↓Wretv_ow, ↓Wpop_io, ↓Wpop_ow, ↓Wturn_none, ↓Wturn_some, ↓accO_some, ↓accO_none, ↓res_val, ↓res_pk, ↓slotD_0, ↓slotD_s, W1_some, WJ_some, W1_none, WJ_none, Wf_fz, Wf_lst, Wf_dct, Wf_obj, Wb_bl, Wi_int, Wif_true, Wif_false, Wv_fz, Wv_ow, Wv_owd, Wv_owo, Wsem_ok, setR_fz, setR_fr, Wrv_some, Wpk_some, Wunp_fz, Wunps_lst, WisL_lst, Wapp_ow, Wapp_io, Wseti_ow, Wseti_io, Wretv_fz, Wretv_ow, Wpop_io, Wpop_ow, accO_some, accO_none, Int.reduceLT, Int.reduceLE, Nat.reduceLT, Nat.reduceLeDiff, Int.reduceToNat, Int.reduceAdd, Int.reduceSub, Int.reduceMul, Int.reduceNeg, decide_true, decide_false, Bool.or_true, Bool.true_or, Bool.or_false, Bool.false_or, Bool.and_true, Bool.true_and, Bool.and_false, Bool.false_and, Bool.not_true, Bool.not_false, and_true, true_and, Option.map_some, Option.map_none, Option.bind_some, Option.bind_none, List.set_cons_zero, List.set_cons_succ, k1_len_str, k1_len_tup, k1_len_lst, k1_len_frl, k1_abs, k1_neg, k1_int, k1_intb, k1_tuple_lst, k1_tuple_tup, k1_list_lst, k1_list_tup, k1_rev, k1_isN, k1_notN, k2_add, k2_add_str, k2_add_lst, k2_sub, k1_isT, k1_notT, k2_mul, k2_muls, k2_fdiv, k2_mod, k2_pow6, k2_pow18, k2_pow12, k2_lt, k2_le, k2_gt, k2_ge, k2_eq, k2_ne, k2_in, k2_notin, k2_idx, idx_0, idx_1, idx_2, idx_3, idt_0, idt_1, idt_2, idt_3, k2_max, slc_str, slc_lst, slc_frl, seq_lst, seq_tup, seq_str, turnE_nx, turnE_ct, turnE_rt, turnE_bk, wipeD, backW, freeT_nil, freeT_cons, freeT1_none, freeT1_fz, freeT1_fzs, lockI, lockD_n, lockD_s, openD_n, openD_s, bindT_1, bindT_2, bindM, size_le, List.foldl_cons, List.foldl_nil, List.all_cons, List.all_nil, List.getElem?_cons_zero, List.getElem?_cons_succ, Option.join_some, Option.join_none, List.zip_cons_cons, List.zip_nil_left, List.length_cons, List.length_nil, List.length_append, Nat.reduceAdd, Nat.reduceEqDiff, Bool.false_eq_true, if_true, if_false, ↓reduceIte, ite_true, ite_false, ki_int_int, ki_int_str, ki_int_bool, ki_int_list, ki_int_tuple, ki_int_dict, ki_bl_int, ki_bl_str, ki_bl_bool, ki_bl_list, ki_bl_tuple, ki_bl_dict, ki_str_int, ki_str_str, ki_str_bool, ki_str_list, ki_str_tuple, ki_str_dict, ki_lst_int, ki_lst_str, ki_lst_bool, ki_lst_list, ki_lst_tuple, ki_lst_dict, ki_frl_int, ki_frl_str, ki_frl_bool, ki_frl_list, ki_frl_tuple, ki_frl_dict, ki_tup_int, ki_tup_str, ki_tup_bool, ki_tup_list, ki_tup_tuple, ki_tup_dict, ki_dct_int, ki_dct_str, ki_dct_bool, ki_dct_list, ki_dct_tuple, ki_dct_dict, ki_non_int, ki_non_str, ki_non_bool, ki_non_list, ki_non_tuple, ki_non_dict, kis_nil, kis_t, kis_f, Z.argsOf, Z.argOf, Z.backTo, Z.outsOf, List.any_nil, List.any_cons, et, inD_two, zt h, Tlaw_6_0]
          exact ⟨some _, rfl⟩
        · exact ⟨some _, rfl⟩
      · rintro δ ⟨a17, rfl⟩
        have hcut : cutD [D.str t0, .str t1, .str t2, .str t3, .str t4, .str t5] none (some 3) = [.str t0, .str t1, .str t2] := rfl
        simp only [↓We_var, ↓We_int, ↓We_str, ↓We_bl, ↓We_non, ↓We_gl, ↓We_dspc, ↓We_fs, ↓We_tup, ↓We_lst, ↓We_op1, ↓We_op2, ↓We_sm1, ↓We_slc, ↓We_isi, ↓We_and, ↓We_or, ↓We_one, ↓We_not, ↓We_ife, ↓We_chn, ↓We_pop, ↓We_call, ↓We_callk, ↓We_comp, ↓Wr_var, ↓Wr_int, ↓Wr_str, ↓Wr_bl, ↓Wr_non, ↓Wr_gl, ↓Wr_dspc, ↓Wr_fs, ↓Wr_tup, ↓Wr_lst, ↓Wr_op1, ↓Wr_op2, ↓Wr_sm1, ↓Wr_slc, ↓Wr_isi, ↓Wr_and, ↓Wr_or, ↓Wr_not, ↓Wr_ife, ↓Wr_chn, ↓Wr_pop, ↓Wr_call, ↓Wr_callk, ↓Wr_comp, ↓Ws_set, ↓Ws_unp, ↓Ws_unps, ↓Ws_app, ↓Ws_seti, ↓Ws_setf, ↓Ws_expr, ↓Ws_ife, ↓Ws_for, ↓Ws_while, ↓Ws_ret, ↓Ws_retv, ↓Ws_retn, ↓Ws_brk, ↓Ws_cont, ↓Ws_pass, ↓Wss_cons, ↓Wss_nil, ↓Wes_nil, ↓Wes_cons, ↓Wo_none, ↓Wo_some, ↓Was_nil, ↓Was_ev, ↓Was_pk, ↓Wcall_def, catA_nil, catA_cons, ↓Wsrc_seq, ↓Wsrc_rng1, ↓Wsrc_rng2, ↓Wsrc_zip, ↓seq_nx, ↓seq_rt, ↓seq_bk, ↓seq_ct, ↓seq_ex, ↓W1_some, ↓WJ_some, ↓W1_none, ↓WJ_none, ↓Wf_fz, ↓Wf_lst, ↓Wf_dct, ↓Wf_obj, ↓Wb_bl, ↓Wi_int, ↓Wif_true, ↓Wif_false, ↓Wv_fz, ↓Wv_ow, ↓Wv_owd, ↓Wv_owo, ↓Wsem_ok, ↓setR_fz, ↓setR_fr, ↓Wrv_some, ↓Wpk_some, ↓Wunp_fz, ↓Wunps_lst, ↓WisL_lst, ↓Wapp_ow, ↓Wapp_io, ↓Wseti_ow, ↓Wseti_io, ↓Wretv_fz, ↓Wretv_ow, ↓Wpop_io, ↓Wpop_ow, ↓Wturn_none, ↓Wturn_some, ↓accO_some, ↓accO_none, ↓res_val, ↓res_pk, ↓slotD_0, ↓slotD_s, W1_some, WJ_some, W1_none, WJ_none, Wf_fz, Wf_lst, Wf_dct, Wf_obj, Wb_bl, Wi_int, Wif_true, Wif_false, Wv_fz, Wv_ow, Wv_owd, Wv_owo, Wsem_ok, setR_fz, setR_fr, Wrv_some, Wpk_some, Wunp_fz, Wunps_lst, WisL_lst, Wapp_ow, Wapp_io, Wseti_ow, Wseti_io, Wretv_fz, Wretv_ow, Wpop_io, Wpop_ow, accO_some, accO_none, Int.reduceLT, Int.reduceLE, Nat.reduceLT, Nat.reduceLeDiff, Int.reduceToNat, Int.reduceAdd, Int.reduceSub, Int.reduceMul, Int.reduceNeg, decide_true, decide_false, Bool.or_true, Bool.true_or, Bool.or_false, Bool.false_or, Bool.and_true, Bool.true_and, Bool.and_false, Bool.false_and, Bool.not_true, Bool.not_false, and_true, true_and, Option.map_some, Option.map_none, Option.bind_some, Option.bind_none, List.set_cons_zero, List.set_cons_succ, k1_len_str, k1_len_tup, k1_len_lst, k1_len_frl, k1_abs, k1_neg, k1_int, k1_intb, k1_tuple_lst, k1_tuple_tup, k1_list_lst, k1_list_tup, k1_rev, k1_isN, k1_notN, k2_add, k2_add_str, k2_add_lst, k2_sub, k1_isT, k1_notT, k2_mul, k2_muls, k2_fdiv, k2_mod, k2_pow6, k2_pow18, k2_pow12, k2_lt, k2_le, k2_gt, k2_ge, k2_eq, k2_ne, k2_in, k2_notin, k2_idx, idx_0, idx_1, idx_2, idx_3, idt_0, idt_1, idt_2, idt_3, k2_max, slc_str, slc_lst, slc_frl, seq_lst, seq_tup, seq_str, turnE_nx, turnE_ct, turnE_rt, turnE_bk, wipeD, backW, freeT_nil, freeT_cons, freeT1_none, freeT1_fz, freeT1_fzs, lockI, lockD_n, lockD_s, openD_n, openD_s, bindT_1, bindT_2, bindM, size_le, List.foldl_cons, List.foldl_nil, List.all_cons, List.all_nil, List.getElem?_cons_zero, List.getElem?_cons_succ, Option.join_some, Option.join_none, List.zip_cons_cons, List.zip_nil_left, List.length_cons, List.length_nil, List.length_append, Nat.reduceAdd, Nat.reduceEqDiff, Bool.false_eq_true, if_true, if_false, ↓reduceIte, ite_true, ite_false, ki_int_int, ki_int_str, ki_int_bool, ki_int_list, ki_int_tuple, ki_int_dict, ki_bl_int, ki_bl_str, ki_bl_bool, ki_bl_list, ki_bl_tuple, ki_bl_dict, ki_str_int, ki_str_str, ki_str_bool, ki_str_list, ki_str_tuple, ki_str_dict, ki_lst_int, ki_lst_str, ki_lst_bool, ki_lst_list, ki_lst_tuple, ki_lst_dict, ki_frl_int, ki_frl_str, ki_frl_bool, ki_frl_list, ki_frl_tuple, ki_frl_dict, ki_tup_int, ki_tup_str, ki_tup_bool, ki_tup_list, ki_tup_tuple, ki_tup_dict, ki_dct_int, ki_dct_str, ki_dct_bool, ki_dct_list, ki_dct_tuple, ki_dct_dict, ki_non_int, ki_non_str, ki_non_bool, ki_non_list, ki_non_tuple, ki_non_dict, kis_nil, kis_t, kis_f, Z.argsOf, Z.argOf, Z.backTo, Z.outsOf, List.any_nil, List.any_cons, Tlaw_3_11, hcut]
        refine ⟨hlen, ?_⟩
        rw [ht]
        exact ⟨some _, some _, some _, some _, some _, some _, some _, a17, _, _, rfl⟩
    · rintro δ ⟨a6, a9, a10, a11, a12, a13, a14, a17, s15, s16, rfl⟩
      obtain ⟨S1, hS1⟩ : ∃ S, S = kinds n1 m1 H a b := ⟨_, rfl⟩
      obtain ⟨S2, hS2⟩ : ∃ S, S = kinds n2 m2 H c d := ⟨_, rfl⟩
      have htk : [kinds n1 m1 H a b, kinds n2 m2 H c d].take 2 = [S1, S2] := by rw [hS1, hS2]; rfl
      rw [htk]
      clear htk
      have hH0 : 0 < H := by omega
      have okk : ∀ {n m : List Nat}, Rm n m → ∀ {s}, Sfx s → ∀ q ∈ nw n m H s, q < 1114112 := fun r _ hs => (nw_ok (h := H) r.ok (by have := r.len; omega) r.bf (by have := r.ml; omega) (by omega) hs).1
      have fx : ∀ {s s' : List Nat}, Sfx s → Sfx s' → decide (nw n1 m1 H s = nw n2 m2 H s') = (decide (n1 = n2) && decide (m1 = m2) && decide (s = s')) := fun hs hs' => by
        rw [← Bool.decide_and, ← Bool.decide_and]
        exact decide_eq_decide.mpr ((nw_inj hH0 r1.bf hs r2.bf hs').trans (and_assoc).symm)
      have fn : ∀ {s s' : List Nat}, Sfx s → Sfx s' → s ≠ s' → decide (nw n1 m1 H s = nw n2 m2 H s') = false := fun hs hs' h => by
        rw [fx hs hs', decide_eq_false h, Bool.and_false]
      have sA : Sfx (tailL a b) := .tail ha hb'
      have sB : Sfx (tailL c d) := .tail hc hd
      have hAl : ∀ al : Bool, al = (decide (n1 = n2) && decide (m1 = m2)) → Wss Tlaw_0_11 [some (.fz, sc), some (.ow, flw fs), some (.ow, .lst [.str n1, .str n2]), some (.ow, .lst [.str m1, .str m2]), some (.fz, .int v), some (.ow, .lst [.int a, .int b, .int c, .int d]), fzs a6, some (.fz, .int H), some (.ow, .lst [S1, S2]), fzs a9, fzs a10, fzs a11, fzs a12, fzs a13, fzs a14, s15, s16, fzs a17, some (.fz, .bl al), none] En := by
        intro al hal
        simp only [kinds] at hS1 hS2
        have q0 := eqD_str (okk r1 .nil) (okk r2 .nil)
        have q1 := eqD_str (okk r1 .q) (okk r2 .q)
        have q2 := eqD_str (okk r1 sA) (okk r2 sB)
        rw [fx .nil .nil, ← hal, decide_eq_true (p := ([] : List Nat) = []) rfl, Bool.and_true] at q0
        rw [fx .q .q, ← hal, decide_eq_true (p := [63] = [63]) rfl, Bool.and_true] at q1
        rw [fx sA sB, ← hal] at q2
        have u12 := eqD_str (okk r1 .nil) (okk r2 .q)
        have u13 := eqD_str (okk r1 .nil) (okk r2 sB)
        have u21 := eqD_str (okk r1 .q) (okk r2 .nil)
        have u23 := eqD_str (okk r1 .q) (okk r2 sB)
        have u31 := eqD_str (okk r1 sA) (okk r2 .nil)
        have u32 := eqD_str (okk r1 sA) (okk r2 .q)
        rw [fn .nil .q (by simp)] at u12
        rw [fn .nil sB (by simp [tailL])] at u13
        rw [fn .q .nil (by simp)] at u21
        rw [fn .q sB (by simp [tailL])] at u23
        rw [fn sA .nil (by simp [tailL])] at u31
        rw [fn sA .q (by simp [tailL])] at u32
        simp only [hS1, hS2, ↓We_var, ↓We_int, ↓We_str, ↓We_bl, ↓We_non, ↓We_gl, ↓We_dspc, ↓We_fs, ↓We_tup, ↓We_lst, ↓We_op1, ↓We_op2, ↓We_sm1, ↓We_slc, ↓We_isi, ↓We_and, ↓We_or, ↓We_one, ↓We_not, ↓We_ife, ↓We_chn, ↓We_pop, ↓We_call, ↓We_callk, ↓We_comp, ↓Wr_var, ↓Wr_int, ↓Wr_str, ↓Wr_bl, ↓Wr_non, ↓Wr_gl, ↓Wr_dspc, ↓Wr_fs, ↓Wr_tup, ↓Wr_lst, ↓Wr_op1, ↓Wr_op2, ↓Wr_sm1, ↓Wr_slc, ↓Wr_isi, ↓Wr_and, ↓Wr_or, ↓Wr_not, ↓Wr_ife, ↓Wr_chn, ↓Wr_pop, ↓Wr_call, ↓Wr_callk, ↓Wr_comp, ↓Ws_set, ↓Ws_unp, ↓Ws_unps, ↓Ws_app, ↓Ws_seti, ↓Ws_setf, ↓Ws_expr, ↓Ws_ife, ↓Ws_for, ↓Ws_while, ↓Ws_ret, ↓Ws_retv, ↓Ws_retn, ↓Ws_brk, ↓Ws_cont, ↓Ws_pass, ↓Wss_cons, ↓Wss_nil, ↓Wes_nil, ↓Wes_cons, ↓Wo_none, ↓Wo_some, ↓Was_nil, ↓Was_ev, ↓Was_pk, ↓Wcall_def, catA_nil, catA_cons, ↓Wsrc_seq, ↓Wsrc_rng1, ↓Wsrc_rng2, ↓Wsrc_zip, ↓seq_nx, ↓seq_rt, ↓seq_bk, ↓seq_ct, ↓seq_ex, ↓W1_some, ↓WJ_some, ↓W1_none, ↓WJ_none, ↓Wf_fz, ↓Wf_lst, ↓Wf_dct, ↓Wf_obj, ↓Wb_bl, ↓Wi_int, ↓Wif_true, ↓Wif_false, ↓Wv_fz, ↓Wv_ow, ↓Wv_owd, ↓Wv_owo, ↓Wsem_ok, ↓setR_fz, ↓setR_fr, ↓Wrv_some, ↓Wpk_some, ↓Wunp_fz, ↓Wunps_lst, ↓WisL_lst, ↓Wapp_ow, ↓Wapp_io, ↓Wseti_ow, ↓Wseti_io, ↓Wretv_fz, ↓Wretv_ow, ↓Wpop_io, ↓Wpop_ow, ↓Wturn_none, ↓Wturn_some, ↓accO_some, ↓accO_none, ↓res_val, ↓res_pk, ↓slotD_0, ↓slotD_s, W1_some, WJ_some, W1_none, WJ_none, Wf_fz, Wf_lst, Wf_dct, Wf_obj, Wb_bl, Wi_int, Wif_true, Wif_false, Wv_fz, Wv_ow, Wv_owd, Wv_owo, Wsem_ok, setR_fz, setR_fr, Wrv_some, Wpk_some, Wunp_fz, Wunps_lst, WisL_lst, Wapp_ow, Wapp_io, Wseti_ow, Wseti_io, Wretv_fz, Wretv_ow, Wpop_io, Wpop_ow, accO_some, accO_none, Int.reduceLT, Int.reduceLE, Nat.reduceLT, Nat.reduceLeDiff, Int.reduceToNat, Int.reduceAdd, Int.reduceSub, Int.reduceMul, Int.reduceNeg, decide_true, decide_false, Bool.or_true, Bool.true_or, Bool.or_false, Bool.false_or, Bool.and_true, Bool.true_and, Bool.and_false, Bool.false_and, Bool.not_true, Bool.not_false, and_true, true_and, Option.map_some, Option.map_none, Option.bind_some, Option.bind_none, List.set_cons_zero, List.set_cons_succ, k1_len_str, k1_len_tup, k1_len_lst, k1_len_frl, k1_abs, k1_neg, k1_int, k1_intb, k1_tuple_lst, k1_tuple_tup, k1_list_lst, k1_list_tup, k1_rev, k1_isN, k1_notN, k2_add, k2_add_str, k2_add_lst, k2_sub, k1_isT, k1_notT, k2_mul, k2_muls, k2_fdiv, k2_mod, k2_pow6, k2_pow18, k2_pow12, k2_lt, k2_le, k2_gt, k2_ge, k2_eq, k2_ne, k2_in, k2_notin, k2_idx, idx_0, idx_1, idx_2, idx_3, idt_0, idt_1, idt_2, idt_3, k2_max, slc_str, slc_lst, slc_frl, seq_lst, seq_tup, seq_str, turnE_nx, turnE_ct, turnE_rt, turnE_bk, wipeD, backW, freeT_nil, freeT_cons, freeT1_none, freeT1_fz, freeT1_fzs, lockI, lockD_n, lockD_s, openD_n, openD_s, bindT_1, bindT_2, bindM, size_le, List.foldl_cons, List.foldl_nil, List.all_cons, List.all_nil, List.getElem?_cons_zero, List.getElem?_cons_succ, Option.join_some, Option.join_none, List.zip_cons_cons, List.zip_nil_left, List.length_cons, List.length_nil, List.length_append, Nat.reduceAdd, Nat.reduceEqDiff, Bool.false_eq_true, if_true, if_false, ↓reduceIte, ite_true, ite_false, ki_int_int, ki_int_str, ki_int_bool, ki_int_list, ki_int_tuple, ki_int_dict, ki_bl_int, ki_bl_str, ki_bl_bool, ki_bl_list, ki_bl_tuple, ki_bl_dict, ki_str_int, ki_str_str, ki_str_bool, ki_str_list, ki_str_tuple, ki_str_dict, ki_lst_int, ki_lst_str, ki_lst_bool, ki_lst_list, ki_lst_tuple, ki_lst_dict, ki_frl_int, ki_frl_str, ki_frl_bool, ki_frl_list, ki_frl_tuple, ki_frl_dict, ki_tup_int, ki_tup_str, ki_tup_bool, ki_tup_list, ki_tup_tuple, ki_tup_dict, ki_dct_int, ki_dct_str, ki_dct_bool, ki_dct_list, ki_dct_tuple, ki_dct_dict, ki_non_int, ki_non_str, ki_non_bool, ki_non_list, ki_non_tuple, ki_non_dict, kis_nil, kis_t, kis_f, Z.argsOf, Z.argOf, Z.backTo, Z.outsOf, List.any_nil, List.any_cons, Tlaw_0_11, q0, q1, eqD_bl, BEq.rfl, Tlaw_7_0, Tlaw_0_12, q2]
        have tr : Wss Tlaw_0_13 [some (.fz, sc), some (.ow, flw fs), some (.ow, .lst [.str n1, .str n2]), some (.ow, .lst [.str m1, .str m2]), some (.fz, .int v), some (.ow, .lst [.int a, .int b, .int c, .int d]), fzs a6, some (.fz, .int H), some (.ow, .lst [S1, S2]), fzs a9, fzs a10, fzs a11, fzs a12, fzs a13, fzs a14, s15, s16, fzs a17, some (.fz, .bl al), none] En := by
          simp only [↓We_var, ↓We_int, ↓We_str, ↓We_bl, ↓We_non, ↓We_gl, ↓We_dspc, ↓We_fs, ↓We_tup, ↓We_lst, ↓We_op1, ↓We_op2, ↓We_sm1, ↓We_slc, ↓We_isi, ↓We_and, ↓We_or, ↓We_one, ↓We_not, ↓We_ife, ↓We_chn, ↓We_pop, ↓We_call, ↓We_callk, ↓We_comp, ↓Wr_var, ↓Wr_int, ↓Wr_str, ↓Wr_bl, ↓Wr_non, ↓Wr_gl, ↓Wr_dspc, ↓Wr_fs, ↓Wr_tup, ↓Wr_lst, ↓Wr_op1, ↓Wr_op2, ↓Wr_sm1, ↓Wr_slc, ↓Wr_isi, ↓Wr_and, ↓Wr_or, ↓Wr_not, ↓Wr_ife, ↓Wr_chn, ↓Wr_pop, ↓Wr_call, ↓Wr_callk, ↓Wr_comp, ↓Ws_set, ↓Ws_unp, ↓Ws_unps, ↓Ws_app, ↓Ws_seti, ↓Ws_setf, ↓Ws_expr, ↓Ws_ife, ↓Ws_for, ↓Ws_while, ↓Ws_ret, ↓Ws_retv, ↓Ws_retn, ↓Ws_brk, ↓Ws_cont, ↓Ws_pass, ↓Wss_cons, ↓Wss_nil, ↓Wes_nil, ↓Wes_cons, ↓Wo_none, ↓Wo_some, ↓Was_nil, ↓Was_ev, ↓Was_pk, ↓Wcall_def, catA_nil, catA_cons, ↓Wsrc_seq, ↓Wsrc_rng1, ↓Wsrc_rng2, ↓Wsrc_zip, ↓seq_nx, ↓seq_rt, ↓seq_bk, ↓seq_ct, ↓seq_ex, ↓W1_some, ↓WJ_some, ↓W1_none, ↓WJ_none, ↓Wf_fz, ↓Wf_lst, ↓Wf_dct, ↓Wf_obj, ↓Wb_bl, ↓Wi_int, ↓Wif_true, ↓Wif_false, ↓Wv_fz, ↓Wv_ow, ↓Wv_owd, ↓Wv_owo, ↓Wsem_ok, ↓setR_fz, ↓setR_fr, ↓Wrv_some, ↓Wpk_some, ↓Wunp_fz, ↓Wunps_lst, ↓WisL_lst, ↓Wapp_ow, ↓Wapp_io, ↓Wseti_ow, ↓Wseti_io, ↓Wretv_fz, ↓Wretv_ow, ↓Wpop_io, ↓Wpop_ow, ↓Wturn_none, ↓Wturn_some, ↓accO_some, ↓accO_none, ↓res_val, ↓res_pk, ↓slotD_0, ↓slotD_s, W1_some, WJ_some, W1_none, WJ_none, Wf_fz, Wf_lst, Wf_dct, Wf_obj, Wb_bl, Wi_int, Wif_true, Wif_false, Wv_fz, Wv_ow, Wv_owd, Wv_owo, Wsem_ok, setR_fz, setR_fr, Wrv_some, Wpk_some, Wunp_fz, Wunps_lst, WisL_lst, Wapp_ow, Wapp_io, Wseti_ow, Wseti_io, Wretv_fz, Wretv_ow, Wpop_io, Wpop_ow, accO_some, accO_none, Int.reduceLT, Int.reduceLE, Nat.reduceLT, Nat.reduceLeDiff, Int.reduceToNat, Int.reduceAdd, Int.reduceSub, Int.reduceMul, Int.reduceNeg, decide_true, decide_false, Bool.or_true, Bool.true_or, Bool.or_false, Bool.false_or, Bool.and_true, Bool.true_and, Bool.and_false, Bool.false_and, Bool.not_true, Bool.not_false, and_true, true_and, Option.map_some, Option.map_none, Option.bind_some, Option.bind_none, List.set_cons_zero, List.set_cons_succ, k1_len_str, k1_len_tup, k1_len_lst, k1_len_frl, k1_abs, k1_neg, k1_int, k1_intb, k1_tuple_lst, k1_tuple_tup, k1_list_lst, k1_list_tup, k1_rev, k1_isN, k1_notN, k2_add, k2_add_str, k2_add_lst, k2_sub, k1_isT, k1_notT, k2_mul, k2_muls, k2_fdiv, k2_mod, k2_pow6, k2_pow18, k2_pow12, k2_lt, k2_le, k2_gt, k2_ge, k2_eq, k2_ne, k2_in, k2_notin, k2_idx, idx_0, idx_1, idx_2, idx_3, idt_0, idt_1, idt_2, idt_3, k2_max, slc_str, slc_lst, slc_frl, seq_lst, seq_tup, seq_str, turnE_nx, turnE_ct, turnE_rt, turnE_bk, wipeD, backW, freeT_nil, freeT_cons, freeT1_none, freeT1_fz, freeT1_fzs, lockI, lockD_n, lockD_s, openD_n, openD_s, bindT_1, bindT_2, bindM, size_le, List.foldl_cons, List.foldl_nil, List.all_cons, List.all_nil, List.getElem?_cons_zero, List.getElem?_cons_succ, Option.join_some, Option.join_none, List.zip_cons_cons, List.zip_nil_left, List.length_cons, List.length_nil, List.length_append, Nat.reduceAdd, Nat.reduceEqDiff, Bool.false_eq_true, if_true, if_false, ↓reduceIte, ite_true, ite_false, ki_int_int, ki_int_str, ki_int_bool, ki_int_list, ki_int_tuple, ki_int_dict, ki_bl_int, ki_bl_str, ki_bl_bool, ki_bl_list, ki_bl_tuple, ki_bl_dict, ki_str_int, ki_str_str, ki_str_bool, ki_str_list, ki_str_tuple, ki_str_dict, ki_lst_int, ki_lst_str, ki_lst_bool, ki_lst_list, ki_lst_tuple, ki_lst_dict, ki_frl_int, ki_frl_str, ki_frl_bool, ki_frl_list, ki_frl_tuple, ki_frl_dict, ki_tup_int, ki_tup_str, ki_tup_bool, ki_tup_list, ki_tup_tuple, ki_tup_dict, ki_dct_int, ki_dct_str, ki_dct_bool, ki_dct_list, ki_dct_tuple, ki_dct_dict, ki_non_int, ki_non_str, ki_non_bool, ki_non_list, ki_non_tuple, ki_non_dict, kis_nil, kis_t, kis_f, Z.argsOf, Z.argOf, Z.backTo, Z.outsOf, List.any_nil, List.any_cons, Tlaw_0_13]
          refine ⟨range62_lit (by decide), ?_⟩
          refine Wfor.rng (fun i δ => ∃ (a17 a19 : Option D), δ = [some (.fz, sc), some (.ow, flw fs), some (.ow, .lst [.str n1, .str n2]), some (.ow, .lst [.str m1, .str m2]), some (.fz, .int v), some (.ow, .lst [.int a, .int b, .int c, .int d]), fzs a6, some (.fz, .int H), some (.ow, .lst [S1, S2]), fzs a9, fzs a10, fzs a11, fzs a12, fzs a13, fzs a14, s15, s16, fzs a17, some (.fz, .bl al), fzs a19]) ⟨a17, none, rfl⟩ ?_ ?_
          · rintro i δ hi ⟨a17, a19, rfl⟩
            have hi : i < 3 := hi
            simp only [↓We_var, ↓We_int, ↓We_str, ↓We_bl, ↓We_non, ↓We_gl, ↓We_dspc, ↓We_fs, ↓We_tup, ↓We_lst, ↓We_op1, ↓We_op2, ↓We_sm1, ↓We_slc, ↓We_isi, ↓We_and, ↓We_or, ↓We_one, ↓We_not, ↓We_ife, ↓We_chn, ↓We_pop, ↓We_call, ↓We_callk, ↓We_comp, ↓Wr_var, ↓Wr_int, ↓Wr_str, ↓Wr_bl, ↓Wr_non, ↓Wr_gl, ↓Wr_dspc, ↓Wr_fs, ↓Wr_tup, ↓Wr_lst, ↓Wr_op1, ↓Wr_op2, ↓Wr_sm1, ↓Wr_slc, ↓Wr_isi, ↓Wr_and, ↓Wr_or, ↓Wr_not, ↓Wr_ife, ↓Wr_chn, ↓Wr_pop, ↓Wr_call, ↓Wr_callk, ↓Wr_comp, ↓Ws_set, ↓Ws_unp, ↓Ws_unps, ↓Ws_app, ↓Ws_seti, ↓Ws_setf, ↓Ws_expr, ↓Ws_ife, ↓Ws_for, ↓Ws_while, ↓Ws_ret, ↓Ws_retv, ↓Ws_retn, ↓Ws_brk, ↓Ws_cont, ↓Ws_pass, ↓Wss_cons, ↓Wss_nil, ↓Wes_nil, ↓Wes_cons, ↓Wo_none, ↓Wo_some, ↓Was_nil, ↓Was_ev, ↓Was_pk, ↓Wcall_def, catA_nil, catA_cons, ↓Wsrc_seq, ↓Wsrc_rng1, ↓Wsrc_rng2, ↓Wsrc_zip, ↓seq_nx, ↓seq_rt, ↓seq_bk, ↓seq_ct, ↓seq_ex, ↓W1_some, ↓WJ_some, ↓W1_none, ↓WJ_none, ↓Wf_fz, ↓Wf_lst, ↓Wf_dct, ↓Wf_obj, ↓Wb_bl, ↓Wi_int, ↓Wif_true, ↓Wif_false, ↓Wv_fz, ↓Wv_ow, ↓Wv_owd, ↓Wv_owo, ↓Wsem_ok, ↓setR_fz, ↓setR_fr, ↓Wrv_some, ↓Wpk_some, ↓Wunp_fz, ↓Wunps_lst, ↓WisL_lst, ↓Wapp_ow, ↓Wapp_io, ↓Wseti_ow, ↓Wseti_io, ↓Wretv_fz, ↓Wretv_ow, ↓Wpop_io, ↓Wpop_ow, ↓Wturn_none, ↓Wturn_some, ↓accO_some, ↓accO_none, ↓res_val, ↓res_pk, ↓slotD_0, ↓slotD_s, W1_some, WJ_some, W1_none, WJ_none, Wf_fz, Wf_lst, Wf_dct, Wf_obj, Wb_bl, Wi_int, Wif_true, Wif_false, Wv_fz, Wv_ow, Wv_owd, Wv_owo, Wsem_ok, setR_fz, setR_fr, Wrv_some, Wpk_some, Wunp_fz, Wunps_lst, WisL_lst, Wapp_ow, Wapp_io, Wseti_ow, Wseti_io, Wretv_fz, Wretv_ow, Wpop_io, Wpop_ow, accO_some, accO_none, Int.reduceLT, Int.reduceLE, Nat.reduceLT, Nat.reduceLeDiff, Int.reduceToNat, Int.reduceAdd, Int.reduceSub, Int.reduceMul, Int.reduceNeg, decide_true, decide_false, Bool.or_true, Bool.true_or, Bool.or_false, Bool.false_or, Bool.and_true, Bool.true_and, Bool.and_false, Bool.false_and, Bool.not_true, Bool.not_false, and_true, true_and, Option.map_some, Option.map_none, Option.bind_some, Option.bind_none, List.set_cons_zero, List.set_cons_succ, k1_len_str, k1_len_tup, k1_len_lst, k1_len_frl, k1_abs, k1_neg, k1_int, k1_intb, k1_tuple_lst, k1_tuple_tup, k1_list_lst, k1_list_tup, k1_rev, k1_isN, k1_notN, k2_add, k2_add_str, k2_add_lst, k2_sub, k1_isT, k1_notT, k2_mul, k2_muls, k2_fdiv, k2_mod, k2_pow6, k2_pow18, k2_pow12, k2_lt, k2_le, k2_gt, k2_ge, k2_eq, k2_ne, k2_in, k2_notin, k2_idx, idx_0, idx_1, idx_2, idx_3, idt_0, idt_1, idt_2, idt_3, k2_max, slc_str, slc_lst, slc_frl, seq_lst, seq_tup, seq_str, turnE_nx, turnE_ct, turnE_rt, turnE_bk, wipeD, backW, freeT_nil, freeT_cons, freeT1_none, freeT1_fz, freeT1_fzs, lockI, lockD_n, lockD_s, openD_n, openD_s, bindT_1, bindT_2, bindM, size_le, List.foldl_cons, List.foldl_nil, List.all_cons, List.all_nil, List.getElem?_cons_zero, List.getElem?_cons_succ, Option.join_some, Option.join_none, List.zip_cons_cons, List.zip_nil_left, List.length_cons, List.length_nil, List.length_append, Nat.reduceAdd, Nat.reduceEqDiff, Bool.false_eq_true, if_true, if_false, ↓reduceIte, ite_true, ite_false, ki_int_int, ki_int_str, ki_int_bool, ki_int_list, ki_int_tuple, ki_int_dict, ki_bl_int, ki_bl_str, ki_bl_bool, ki_bl_list, ki_bl_tuple, ki_bl_dict, ki_str_int, ki_str_str, ki_str_bool, ki_str_list, ki_str_tuple, ki_str_dict, ki_lst_int, ki_lst_str, ki_lst_bool, ki_lst_list, ki_lst_tuple, ki_lst_dict, ki_frl_int, ki_frl_str, ki_frl_bool, ki_frl_list, ki_frl_tuple, ki_frl_dict, ki_tup_int, ki_tup_str, ki_tup_bool, ki_tup_list, ki_tup_tuple, ki_tup_dict, ki_dct_int, ki_dct_str, ki_dct_bool, ki_dct_list, ki_dct_tuple, ki_dct_dict, ki_non_int, ki_non_str, ki_non_bool, ki_non_list, ki_non_tuple, ki_non_dict, kis_nil, kis_t, kis_f, Z.argsOf, Z.argOf, Z.backTo, Z.outsOf, List.any_nil, List.any_cons, Tlaw_9_0]
            refine ⟨range62_lit (by decide), ?_⟩
            refine Wfor.rng (fun j δ => ∃ (a17 : Option D), δ = [some (.fz, sc), some (.ow, flw fs), some (.ow, .lst [.str n1, .str n2]), some (.ow, .lst [.str m1, .str m2]), some (.fz, .int v), some (.ow, .lst [.int a, .int b, .int c, .int d]), fzs a6, some (.fz, .int H), some (.ow, .lst [S1, S2]), fzs a9, fzs a10, fzs a11, fzs a12, fzs a13, fzs a14, s15, s16, fzs a17, some (.fz, .bl al), some (.fz, .int (0 + (i : Int)))]) ⟨a17, rfl⟩ ?_ ?_
            · rintro j δ hj ⟨a17, rfl⟩
              have hj : j < 3 := hj
              rw [Int.zero_add, Int.zero_add]
              simp only [↓We_var, ↓We_int, ↓We_str, ↓We_bl, ↓We_non, ↓We_gl, ↓We_dspc, ↓We_fs, ↓We_tup, ↓We_lst, ↓We_op1, ↓We_op2, ↓We_sm1, ↓We_slc, ↓We_isi, ↓We_and, ↓We_or, ↓We_one, ↓We_not, ↓We_ife, ↓We_chn, ↓We_pop, ↓We_call, ↓We_callk, ↓We_comp, ↓Wr_var, ↓Wr_int, ↓Wr_str, ↓Wr_bl, ↓Wr_non, ↓Wr_gl, ↓Wr_dspc, ↓Wr_fs, ↓Wr_tup, ↓Wr_lst, ↓Wr_op1, ↓Wr_op2, ↓Wr_sm1, ↓Wr_slc, ↓Wr_isi, ↓Wr_and, ↓Wr_or, ↓Wr_not, ↓Wr_ife, ↓Wr_chn, ↓Wr_pop, ↓Wr_call, ↓Wr_callk, ↓Wr_comp, ↓Ws_set, ↓Ws_unp, ↓Ws_unps, ↓Ws_app, ↓Ws_seti, ↓Ws_setf, ↓Ws_expr, ↓Ws_ife, ↓Ws_for, ↓Ws_while, ↓Ws_ret, ↓Ws_retv, ↓Ws_retn, ↓Ws_brk, ↓Ws_cont, ↓Ws_pass, ↓Wss_cons, ↓Wss_nil, ↓Wes_nil, ↓Wes_cons, ↓Wo_none, ↓Wo_some, ↓Was_nil, ↓Was_ev, ↓Was_pk, ↓Wcall_def, catA_nil, catA_cons, ↓Wsrc_seq, ↓Wsrc_rng1, ↓Wsrc_rng2, ↓Wsrc_zip, ↓seq_nx, ↓seq_rt, ↓seq_bk, ↓seq_ct, ↓seq_ex, ↓W1_some, ↓WJ_some, ↓W1_none, ↓WJ_none, ↓Wf_fz, ↓Wf_lst, ↓Wf_dct, ↓Wf_obj, ↓Wb_bl, ↓Wi_int, ↓Wif_true, ↓Wif_false, ↓Wv_fz, ↓Wv_ow, ↓Wv_owd, ↓Wv_owo, ↓Wsem_ok, ↓setR_fz, ↓setR_fr, ↓Wrv_some, ↓Wpk_some, ↓Wunp_fz, ↓Wunps_lst, ↓WisL_lst, ↓Wapp_ow, ↓Wapp_io, ↓Wseti_ow, ↓Wseti_io, ↓Wretv_fz, ↓Wretv_ow, ↓Wpop_io, ↓Wpop_ow, ↓Wturn_none, ↓Wturn_some, ↓accO_some, ↓accO_none, ↓res_val, ↓res_pk, ↓slotD_0, ↓slotD_s, W1_some, WJ_some, W1_none, WJ_none, Wf_fz, Wf_lst, Wf_dct, Wf_obj, Wb_bl, Wi_int, Wif_true, Wif_false, Wv_fz, Wv_ow, Wv_owd, Wv_owo, Wsem_ok, setR_fz, setR_fr, Wrv_some, Wpk_some, Wunp_fz, Wunps_lst, WisL_lst, Wapp_ow, Wapp_io, Wseti_ow, Wseti_io, Wretv_fz, Wretv_ow, Wpop_io, Wpop_ow, accO_some, accO_none, Int.reduceLT, Int.reduceLE, Nat.reduceLT, Nat.reduceLeDiff, Int.reduceToNat, Int.reduceAdd, Int.reduceSub, Int.reduceMul, Int.reduceNeg, decide_true, decide_false, Bool.or_true, Bool.true_or, Bool.or_false, Bool.false_or, Bool.and_true, Bool.true_and, Bool.and_false, Bool.false_and, Bool.not_true, Bool.not_false, and_true, true_and, Option.map_some, Option.map_none, Option.bind_some, Option.bind_none, List.set_cons_zero, List.set_cons_succ, k1_len_str, k1_len_tup, k1_len_lst, k1_len_frl, k1_abs, k1_neg, k1_int, k1_intb, k1_tuple_lst, k1_tuple_tup, k1_list_lst, k1_list_tup, k1_rev, k1_isN, k1_notN, k2_add, k2_add_str, k2_add_lst, k2_sub, k1_isT, k1_notT, k2_mul, k2_muls, k2_fdiv, k2_mod, k2_pow6, k2_pow18, k2_pow12, k2_lt, k2_le, k2_gt, k2_ge, k2_eq, k2_ne, k2_in, k2_notin, k2_idx, idx_0, idx_1, idx_2, idx_3, idt_0, idt_1, idt_2, idt_3, k2_max, slc_str, slc_lst, slc_frl, seq_lst, seq_tup, seq_str, turnE_nx, turnE_ct, turnE_rt, turnE_bk, wipeD, backW, freeT_nil, freeT_cons, freeT1_none, freeT1_fz, freeT1_fzs, lockI, lockD_n, lockD_s, openD_n, openD_s, bindT_1, bindT_2, bindM, size_le, List.foldl_cons, List.foldl_nil, List.all_cons, List.all_nil, List.getElem?_cons_zero, List.getElem?_cons_succ, Option.join_some, Option.join_none, List.zip_cons_cons, List.zip_nil_left, List.length_cons, List.length_nil, List.length_append, Nat.reduceAdd, Nat.reduceEqDiff, Bool.false_eq_true, if_true, if_false, ↓reduceIte, ite_true, ite_false, ki_int_int, ki_int_str, ki_int_bool, ki_int_list, ki_int_tuple, ki_int_dict, ki_bl_int, ki_bl_str, ki_bl_bool, ki_bl_list, ki_bl_tuple, ki_bl_dict, ki_str_int, ki_str_str, ki_str_bool, ki_str_list, ki_str_tuple, ki_str_dict, ki_lst_int, ki_lst_str, ki_lst_bool, ki_lst_list, ki_lst_tuple, ki_lst_dict, ki_frl_int, ki_frl_str, ki_frl_bool, ki_frl_list, ki_frl_tuple, ki_frl_dict, ki_tup_int, ki_tup_str, ki_tup_bool, ki_tup_list, ki_tup_tuple, ki_tup_dict, ki_dct_int, ki_dct_str, ki_dct_bool, ki_dct_list, ki_dct_tuple, ki_dct_dict, ki_non_int, ki_non_str, ki_non_bool, ki_non_list, ki_non_tuple, ki_non_dict, kis_nil, kis_t, kis_f, Z.argsOf, Z.argOf, Z.backTo, Z.outsOf, List.any_nil, List.any_cons, Tlaw_10_0, eqD_int, Tlaw_11_0]
              refine ⟨fun h => ?_, fun h => ?_⟩
              · have h : i ≠ j := fun z => by subst z; simp at h
                have key : ∃ x y, idxD S1 (.int (i : Int)) = some x ∧ idxD S2 (.int (j : Int)) = some y ∧ eqD x y = some false := by
                  rw [hS1, hS2]
                  rcases (show i = 0 ∨ i = 1 ∨ i = 2 by omega) with rfl | rfl | rfl <;> rcases (show j = 0 ∨ j = 1 ∨ j = 2 by omega) with rfl | rfl | rfl <;> first | exact absurd rfl h | skip
                  · exact ⟨_, _, idx_0, idx_1, u12⟩
                  · exact ⟨_, _, idx_0, idx_2, u13⟩
                  · exact ⟨_, _, idx_1, idx_0, u21⟩
                  · exact ⟨_, _, idx_1, idx_2, u23⟩
                  · exact ⟨_, _, idx_2, idx_0, u31⟩
                  · exact ⟨_, _, idx_2, idx_1, u32⟩
                obtain ⟨x, y, k1, k2, k3⟩ := key
                simp only [↓We_var, ↓We_int, ↓We_str, ↓We_bl, ↓We_non, ↓We_gl, ↓We_dspc, ↓We_fs, ↓We_tup, ↓We_lst, ↓We_op1, ↓We_op2, ↓We_sm1, ↓We_slc, ↓We_isi, ↓We_and, ↓We_or, ↓We_one, ↓We_not, ↓We_ife, ↓We_chn, ↓We_pop, ↓We_call, ↓We_callk, ↓We_comp, ↓Wr_var, ↓Wr_int, ↓Wr_str, ↓Wr_bl, ↓Wr_non, ↓Wr_gl, ↓Wr_dspc, ↓Wr_fs, ↓Wr_tup, ↓Wr_lst, ↓Wr_op1, ↓Wr_op2, ↓Wr_sm1, ↓Wr_slc, ↓Wr_isi, ↓Wr_and, ↓Wr_or, ↓Wr_not, ↓Wr_ife, ↓Wr_chn, ↓Wr_pop, ↓Wr_call, ↓Wr_callk, ↓Wr_comp, ↓Ws_set, ↓Ws_unp, ↓Ws_unps, ↓Ws_app, ↓Ws_seti, ↓Ws_setf, ↓Ws_expr, ↓Ws_ife, ↓Ws_for, ↓Ws_while, ↓Ws_ret, ↓Ws_retv, ↓Ws_retn, ↓Ws_brk, ↓Ws_cont, ↓Ws_pass, ↓Wss_cons, ↓Wss_nil, ↓Wes_nil, ↓Wes_cons, ↓Wo_none, ↓Wo_some, ↓Was_nil, ↓Was_ev, ↓Was_pk, ↓Wcall_def, catA_nil, catA_cons, ↓Wsrc_seq, ↓Wsrc_rng1, ↓Wsrc_rng2, ↓Wsrc_zip, ↓seq_nx, ↓seq_rt, ↓seq_bk, ↓seq_ct, ↓seq_ex, ↓W1_some, ↓WJ_some, ↓W1_none, ↓WJ_none, ↓Wf_fz, ↓Wf_lst, ↓Wf_dct, ↓Wf_obj, ↓Wb_bl, ↓Wi_int, ↓Wif_true, ↓Wif_false, ↓Wv_fz, ↓Wv_ow, ↓Wv_owd, ↓Wv_owo, ↓Wsem_ok, ↓setR_fz, ↓setR_fr, ↓Wrv_some, ↓Wpk_some, ↓Wunp_fz, ↓Wunps_lst, ↓WisL_lst, ↓Wapp_ow, ↓Wapp_io, ↓Wseti_ow, ↓Wseti_io, ↓Wretv_fz, ↓Wretv_ow, ↓Wpop_io, ↓Wpop_ow, ↓Wturn_none, ↓Wturn_some, ↓accO_some, ↓accO_none, ↓res_val, ↓res_pk, ↓slotD_0, ↓slotD_s, W1_some, WJ_some, W1_none, WJ_none, Wf_fz, Wf_lst, Wf_dct, Wf_obj, Wb_bl, Wi_int, Wif_true, Wif_false, Wv_fz, Wv_ow, Wv_owd, Wv_owo, Wsem_ok, setR_fz, setR_fr, Wrv_some, Wpk_some, Wunp_fz, Wunps_lst, WisL_lst, Wapp_ow, Wapp_io, Wseti_ow, Wseti_io, Wretv_fz, Wretv_ow, Wpop_io, Wpop_ow, accO_some, accO_none, Int.reduceLT, Int.reduceLE, Nat.reduceLT, Nat.reduceLeDiff, Int.reduceToNat, Int.reduceAdd, Int.reduceSub, Int.reduceMul, Int.reduceNeg, decide_true, decide_false, Bool.or_true, Bool.true_or, Bool.or_false, Bool.false_or, Bool.and_true, Bool.true_and, Bool.and_false, Bool.false_and, Bool.not_true, Bool.not_false, and_true, true_and, Option.map_some, Option.map_none, Option.bind_some, Option.bind_none, List.set_cons_zero, List.set_cons_succ, k1_len_str, k1_len_tup, k1_len_lst, k1_len_frl, k1_abs, k1_neg, k1_int, k1_intb, k1_tuple_lst, k1_tuple_tup, k1_list_lst, k1_list_tup, k1_rev, k1_isN, k1_notN, k2_add, k2_add_str, k2_add_lst, k2_sub, k1_isT, k1_notT, k2_mul, k2_muls, k2_fdiv, k2_mod, k2_pow6, k2_pow18, k2_pow12, k2_lt, k2_le, k2_gt, k2_ge, k2_eq, k2_ne, k2_in, k2_notin, k2_idx, idx_0, idx_1, idx_2, idx_3, idt_0, idt_1, idt_2, idt_3, k2_max, slc_str, slc_lst, slc_frl, seq_lst, seq_tup, seq_str, turnE_nx, turnE_ct, turnE_rt, turnE_bk, wipeD, backW, freeT_nil, freeT_cons, freeT1_none, freeT1_fz, freeT1_fzs, lockI, lockD_n, lockD_s, openD_n, openD_s, bindT_1, bindT_2, bindM, size_le, List.foldl_cons, List.foldl_nil, List.all_cons, List.all_nil, List.getElem?_cons_zero, List.getElem?_cons_succ, Option.join_some, Option.join_none, List.zip_cons_cons, List.zip_nil_left, List.length_cons, List.length_nil, List.length_append, Nat.reduceAdd, Nat.reduceEqDiff, Bool.false_eq_true, if_true, if_false, ↓reduceIte, ite_true, ite_false, ki_int_int, ki_int_str, ki_int_bool, ki_int_list, ki_int_tuple, ki_int_dict, ki_bl_int, ki_bl_str, ki_bl_bool, ki_bl_list, ki_bl_tuple, ki_bl_dict, ki_str_int, ki_str_str, ki_str_bool, ki_str_list, ki_str_tuple, ki_str_dict, ki_lst_int, ki_lst_str, ki_lst_bool, ki_lst_list, ki_lst_tuple, ki_lst_dict, ki_frl_int, ki_frl_str, ki_frl_bool, ki_frl_list, ki_frl_tuple, ki_frl_dict, ki_tup_int, ki_tup_str, ki_tup_bool, ki_tup_list, ki_tup_tuple, ki_tup_dict, ki_dct_int, ki_dct_str, ki_dct_bool, ki_dct_list, ki_dct_tuple, ki_dct_dict, ki_non_int, ki_non_str, ki_non_bool, ki_non_list, ki_non_tuple, ki_non_dict, kis_nil, kis_t, kis_f, Z.argsOf, Z.argOf, Z.backTo, Z.outsOf, List.any_nil, List.any_cons, k1, k2, k3]
                exact ⟨some _, rfl⟩
              · exact ⟨some _, rfl⟩
            · rintro δ ⟨a17, rfl⟩
              exact ⟨a17, some _, rfl⟩
          · rintro δ ⟨a17, a19, rfl⟩
            simp only [↓We_var, ↓We_int, ↓We_str, ↓We_bl, ↓We_non, ↓We_gl, ↓We_dspc, ↓We_fs, ↓We_tup, ↓We_lst, ↓We_op1, ↓We_op2, ↓We_sm1, ↓We_slc, ↓We_isi, ↓We_and, ↓We_or, ↓We_one, ↓We_not, ↓We_ife, ↓We_chn, ↓We_pop, ↓We_call, ↓We_callk, ↓We_comp, ↓Wr_var, ↓Wr_int, ↓Wr_str, ↓Wr_bl, ↓Wr_non, ↓Wr_gl, ↓Wr_dspc, ↓Wr_fs, ↓Wr_tup, ↓Wr_lst, ↓Wr_op1, ↓Wr_op2, ↓Wr_sm1, ↓Wr_slc, ↓Wr_isi, ↓Wr_and, ↓Wr_or, ↓Wr_not, ↓Wr_ife, ↓Wr_chn, ↓Wr_pop, ↓Wr_call, ↓Wr_callk, ↓Wr_comp, ↓Ws_set, ↓Ws_unp, ↓Ws_unps, ↓Ws_app, ↓Ws_seti, ↓Ws_setf, ↓Ws_expr, ↓Ws_ife, ↓Ws_for, ↓Ws_while, ↓Ws_ret, ↓Ws_retv, ↓Ws_retn, ↓Ws_brk, ↓Ws_cont, ↓Ws_pass, ↓Wss_cons, ↓Wss_nil, ↓Wes_nil, ↓Wes_cons, ↓Wo_none, ↓Wo_some, ↓Was_nil, ↓Was_ev, ↓Was_pk, ↓Wcall_def, catA_nil, catA_cons, ↓Wsrc_seq, ↓Wsrc_rng1, ↓Wsrc_rng2, ↓Wsrc_zip, ↓seq_nx, ↓seq_rt, ↓seq_bk, ↓seq_ct, ↓seq_ex, ↓W1_some, ↓WJ_some, ↓W1_none, ↓WJ_none, ↓Wf_fz, ↓Wf_lst, ↓Wf_dct, ↓Wf_obj, ↓Wb_bl, ↓Wi_int, ↓Wif_true, ↓Wif_false, ↓Wv_fz, ↓Wv_ow, ↓Wv_owd, ↓Wv_owo, ↓Wsem_ok, ↓setR_fz, ↓setR_fr, ↓Wrv_some, ↓Wpk_some, ↓Wunp_fz, ↓Wunps_lst, ↓WisL_lst, ↓Wapp_ow, ↓Wapp_io, ↓Wseti_ow, ↓Wseti_io, ↓Wretv_fz, ↓Wretv_ow, ↓Wpop_io, ↓Wpop_ow, ↓Wturn_none, ↓Wturn_some, ↓accO_some, ↓accO_none, ↓res_val, ↓res_pk, ↓slotD_0, ↓slotD_s, W1_some, WJ_some, W1_none, WJ_none, Wf_fz, Wf_lst, Wf_dct, Wf_obj, Wb_bl, Wi_int, Wif_true, Wif_false, Wv_fz, Wv_ow, Wv_owd, Wv_owo, Wsem_ok, setR_fz, setR_fr, Wrv_some, Wpk_some, Wunp_fz, Wunps_lst, WisL_lst, Wapp_ow, Wapp_io, Wseti_ow, Wseti_io, Wretv_fz, Wretv_ow, Wpop_io, Wpop_ow, accO_some, accO_none, Int.reduceLT, Int.reduceLE, Nat.reduceLT, Nat.reduceLeDiff, Int.reduceToNat, Int.reduceAdd, Int.reduceSub, Int.reduceMul, Int.reduceNeg, decide_true, decide_false, Bool.or_true, Bool.true_or, Bool.or_false, Bool.false_or, Bool.and_true, Bool.true_and, Bool.and_false, Bool.false_and, Bool.not_true, Bool.not_false, and_true, true_and, Option.map_some, Option.map_none, Option.bind_some, Option.bind_none, List.set_cons_zero, List.set_cons_succ, k1_len_str, k1_len_tup, k1_len_lst, k1_len_frl, k1_abs, k1_neg, k1_int, k1_intb, k1_tuple_lst, k1_tuple_tup, k1_list_lst, k1_list_tup, k1_rev, k1_isN, k1_notN, k2_add, k2_add_str, k2_add_lst, k2_sub, k1_isT, k1_notT, k2_mul, k2_muls, k2_fdiv, k2_mod, k2_pow6, k2_pow18, k2_pow12, k2_lt, k2_le, k2_gt, k2_ge, k2_eq, k2_ne, k2_in, k2_notin, k2_idx, idx_0, idx_1, idx_2, idx_3, idt_0, idt_1, idt_2, idt_3, k2_max, slc_str, slc_lst, slc_frl, seq_lst, seq_tup, seq_str, turnE_nx, turnE_ct, turnE_rt, turnE_bk, wipeD, backW, freeT_nil, freeT_cons, freeT1_none, freeT1_fz, freeT1_fzs, lockI, lockD_n, lockD_s, openD_n, openD_s, bindT_1, bindT_2, bindM, size_le, List.foldl_cons, List.foldl_nil, List.all_cons, List.all_nil, List.getElem?_cons_zero, List.getElem?_cons_succ, Option.join_some, Option.join_none, List.zip_cons_cons, List.zip_nil_left, List.length_cons, List.length_nil, List.length_append, Nat.reduceAdd, Nat.reduceEqDiff, Bool.false_eq_true, if_true, if_false, ↓reduceIte, ite_true, ite_false, ki_int_int, ki_int_str, ki_int_bool, ki_int_list, ki_int_tuple, ki_int_dict, ki_bl_int, ki_bl_str, ki_bl_bool, ki_bl_list, ki_bl_tuple, ki_bl_dict, ki_str_int, ki_str_str, ki_str_bool, ki_str_list, ki_str_tuple, ki_str_dict, ki_lst_int, ki_lst_str, ki_lst_bool, ki_lst_list, ki_lst_tuple, ki_lst_dict, ki_frl_int, ki_frl_str, ki_frl_bool, ki_frl_list, ki_frl_tuple, ki_frl_dict, ki_tup_int, ki_tup_str, ki_tup_bool, ki_tup_list, ki_tup_tuple, ki_tup_dict, ki_dct_int, ki_dct_str, ki_dct_bool, ki_dct_list, ki_dct_tuple, ki_dct_dict, ki_non_int, ki_non_str, ki_non_bool, ki_non_list, ki_non_tuple, ki_non_dict, kis_nil, kis_t, kis_f, Z.argsOf, Z.argOf, Z.backTo, Z.outsOf, List.any_nil, List.any_cons, Tlaw_0_14]
            refine hrt _ _ ?_
            simp only [↓We_var, ↓We_int, ↓We_str, ↓We_bl, ↓We_non, ↓We_gl, ↓We_dspc, ↓We_fs, ↓We_tup, ↓We_lst, ↓We_op1, ↓We_op2, ↓We_sm1, ↓We_slc, ↓We_isi, ↓We_and, ↓We_or, ↓We_one, ↓We_not, ↓We_ife, ↓We_chn, ↓We_pop, ↓We_call, ↓We_callk, ↓We_comp, ↓Wr_var, ↓Wr_int, ↓Wr_str, ↓Wr_bl, ↓Wr_non, ↓Wr_gl, ↓Wr_dspc, ↓Wr_fs, ↓Wr_tup, ↓Wr_lst, ↓Wr_op1, ↓Wr_op2, ↓Wr_sm1, ↓Wr_slc, ↓Wr_isi, ↓Wr_and, ↓Wr_or, ↓Wr_not, ↓Wr_ife, ↓Wr_chn, ↓Wr_pop, ↓Wr_call, ↓Wr_callk, ↓Wr_comp, ↓Ws_set, ↓Ws_unp, ↓Ws_unps, ↓Ws_app, ↓Ws_seti, ↓Ws_setf, ↓Ws_expr, ↓Ws_ife, ↓Ws_for, ↓Ws_while, ↓Ws_ret, ↓Ws_retv, ↓Ws_retn, ↓Ws_brk, ↓Ws_cont, ↓Ws_pass, ↓Wss_cons, ↓Wss_nil, ↓Wes_nil, ↓Wes_cons, ↓Wo_none, ↓Wo_some, ↓Was_nil, ↓Was_ev, ↓Was_pk, ↓Wcall_def, catA_nil, catA_cons, ↓Wsrc_seq, ↓Wsrc_rng1, ↓Wsrc_rng2, ↓Wsrc_zip, ↓seq_nx, ↓seq_rt, ↓seq_bk, ↓seq_ct, ↓seq_ex, ↓W1_some, ↓WJ_some, ↓W1_none, ↓WJ_none, ↓Wf_fz, ↓Wf_lst, ↓Wf_dct, ↓Wf_obj, ↓Wb_bl, ↓Wi_int, ↓Wif_true, ↓Wif_false, ↓Wv_fz, ↓Wv_ow, ↓Wv_owd, ↓Wv_owo, ↓Wsem_ok, ↓setR_fz, ↓setR_fr, ↓Wrv_some, ↓Wpk_some, ↓Wunp_fz, ↓Wunps_lst, ↓WisL_lst, ↓Wapp_ow, ↓Wapp_io, ↓Wseti_ow, ↓Wseti_io, ↓Wretv_fz, ↓Wretv_ow, ↓Wpop_io, ↓Wpop_ow, ↓Wturn_none, ↓Wturn_some, ↓accO_some, ↓accO_none, ↓res_val, ↓res_pk, ↓slotD_0, ↓slotD_s, W1_some, WJ_some, W1_none, WJ_none, Wf_fz, Wf_lst, Wf_dct, Wf_obj, Wb_bl, Wi_int, Wif_true, Wif_false, Wv_fz, Wv_ow, Wv_owd, Wv_owo, Wsem_ok, setR_fz, setR_fr, Wrv_some, Wpk_some, Wunp_fz, Wunps_lst, WisL_lst, Wapp_ow, Wapp_io, Wseti_ow, Wseti_io, Wretv_fz, Wretv_ow, Wpop_io, Wpop_ow, accO_some, accO_none, Int.reduceLT, Int.reduceLE, Nat.reduceLT, Nat.reduceLeDiff, Int.reduceToNat, Int.reduceAdd, Int.reduceSub, Int.reduceMul, Int.reduceNeg, decide_true, decide_false, Bool.or_true, Bool.true_or, Bool.or_false, Bool.false_or, Bool.and_true, Bool.true_and, Bool.and_false, Bool.false_and, Bool.not_true, Bool.not_false, and_true, true_and, Option.map_some, Option.map_none, Option.bind_some, Option.bind_none, List.set_cons_zero, List.set_cons_succ, k1_len_str, k1_len_tup, k1_len_lst, k1_len_frl, k1_abs, k1_neg, k1_int, k1_intb, k1_tuple_lst, k1_tuple_tup, k1_list_lst, k1_list_tup, k1_rev, k1_isN, k1_notN, k2_add, k2_add_str, k2_add_lst, k2_sub, k1_isT, k1_notT, k2_mul, k2_muls, k2_fdiv, k2_mod, k2_pow6, k2_pow18, k2_pow12, k2_lt, k2_le, k2_gt, k2_ge, k2_eq, k2_ne, k2_in, k2_notin, k2_idx, idx_0, idx_1, idx_2, idx_3, idt_0, idt_1, idt_2, idt_3, k2_max, slc_str, slc_lst, slc_frl, seq_lst, seq_tup, seq_str, turnE_nx, turnE_ct, turnE_rt, turnE_bk, wipeD, backW, freeT_nil, freeT_cons, freeT1_none, freeT1_fz, freeT1_fzs, lockI, lockD_n, lockD_s, openD_n, openD_s, bindT_1, bindT_2, bindM, size_le, List.foldl_cons, List.foldl_nil, List.all_cons, List.all_nil, List.getElem?_cons_zero, List.getElem?_cons_succ, Option.join_some, Option.join_none, List.zip_cons_cons, List.zip_nil_left, List.length_cons, List.length_nil, List.length_append, Nat.reduceAdd, Nat.reduceEqDiff, Bool.false_eq_true, if_true, if_false, ↓reduceIte, ite_true, ite_false, ki_int_int, ki_int_str, ki_int_bool, ki_int_list, ki_int_tuple, ki_int_dict, ki_bl_int, ki_bl_str, ki_bl_bool, ki_bl_list, ki_bl_tuple, ki_bl_dict, ki_str_int, ki_str_str, ki_str_bool, ki_str_list, ki_str_tuple, ki_str_dict, ki_lst_int, ki_lst_str, ki_lst_bool, ki_lst_list, ki_lst_tuple, ki_lst_dict, ki_frl_int, ki_frl_str, ki_frl_bool, ki_frl_list, ki_frl_tuple, ki_frl_dict, ki_tup_int, ki_tup_str, ki_tup_bool, ki_tup_list, ki_tup_tuple, ki_tup_dict, ki_dct_int, ki_dct_str, ki_dct_bool, ki_dct_list, ki_dct_tuple, ki_dct_dict, ki_non_int, ki_non_str, ki_non_bool, ki_non_list, ki_non_tuple, ki_non_dict, kis_nil, kis_t, kis_f, Z.argsOf, Z.argOf, Z.backTo, Z.outsOf, List.any_nil, List.any_cons]
        rw [hS1, hS2] at tr
        cases al with
        | false =>
          simp only [↓We_var, ↓We_int, ↓We_str, ↓We_bl, ↓We_non, ↓We_gl, ↓We_dspc, ↓We_fs, ↓We_tup, ↓We_lst, ↓We_op1, ↓We_op2, ↓We_sm1, ↓We_slc, ↓We_isi, ↓We_and, ↓We_or, ↓We_one, ↓We_not, ↓We_ife, ↓We_chn, ↓We_pop, ↓We_call, ↓We_callk, ↓We_comp, ↓Wr_var, ↓Wr_int, ↓Wr_str, ↓Wr_bl, ↓Wr_non, ↓Wr_gl, ↓Wr_dspc, ↓Wr_fs, ↓Wr_tup, ↓Wr_lst, ↓Wr_op1, ↓Wr_op2, ↓Wr_sm1, ↓Wr_slc, ↓Wr_isi, ↓Wr_and, ↓Wr_or, ↓Wr_not, ↓Wr_ife, ↓Wr_chn, ↓Wr_pop, ↓Wr_call, ↓Wr_callk, ↓Wr_comp, ↓Ws_set, ↓Ws_unp, ↓Ws_unps, ↓Ws_app, ↓Ws_seti, ↓Ws_setf, ↓Ws_expr, ↓Ws_ife, ↓Ws_for, ↓Ws_while, ↓Ws_ret, ↓Ws_retv, ↓Ws_retn, ↓Ws_brk, ↓Ws_cont, ↓Ws_pass, ↓Wss_cons, ↓Wss_nil, ↓Wes_nil, ↓Wes_cons, ↓Wo_none, ↓Wo_some, ↓Was_nil, ↓Was_ev, ↓Was_pk, ↓Wcall_def, catA_nil, catA_cons, ↓Wsrc_seq, ↓Wsrc_rng1, ↓Wsrc_rng2, ↓Wsrc_zip, ↓seq_nx, ↓seq_rt, ↓seq_bk, ↓seq_ct, ↓seq_ex, ↓W1_some, ↓WJ_some, ↓W1_none, ↓WJ_none, ↓Wf_fz, ↓Wf_lst, ↓Wf_dct, ↓Wf_obj, ↓Wb_bl, ↓Wi_int, ↓Wif_true, ↓Wif_false, ↓Wv_fz, ↓Wv_ow, ↓Wv_owd, ↓Wv_owo, ↓Wsem_ok, ↓setR_fz, ↓setR_fr, ↓Wrv_some, ↓Wpk_some, ↓Wunp_fz, ↓Wunps_lst, ↓WisL_lst, ↓Wapp_ow, ↓Wapp_io, ↓Wseti_ow, ↓Wseti_io, ↓Wretv_fz, ↓Wretv_ow, ↓Wpop_io, ↓Wpop_ow, ↓Wturn_none, ↓Wturn_some, ↓accO_some, ↓accO_none, ↓res_val, ↓res_pk, ↓slotD_0, ↓slotD_s, W1_some, WJ_some, W1_none, WJ_none, Wf_fz, Wf_lst, Wf_dct, Wf_obj, Wb_bl, Wi_int, Wif_true, Wif_false, Wv_fz, Wv_ow, Wv_owd, Wv_owo, Wsem_ok, setR_fz, setR_fr, Wrv_some, Wpk_some, Wunp_fz, Wunps_lst, WisL_lst, Wapp_ow, Wapp_io, Wseti_ow, Wseti_io, Wretv_fz, Wretv_ow, Wpop_io, Wpop_ow, accO_some, accO_none, Int.reduceLT, Int.reduceLE, Nat.reduceLT, Nat.reduceLeDiff, Int.reduceToNat, Int.reduceAdd, Int.reduceSub, Int.reduceMul, Int.reduceNeg, decide_true, decide_false, Bool.or_true, Bool.true_or, Bool.or_false, Bool.false_or, Bool.and_true, Bool.true_and, Bool.and_false, Bool.false_and, Bool.not_true, Bool.not_false, and_true, true_and, Option.map_some, Option.map_none, Option.bind_some, Option.bind_none, List.set_cons_zero, List.set_cons_succ, k1_len_str, k1_len_tup, k1_len_lst, k1_len_frl, k1_abs, k1_neg, k1_int, k1_intb, k1_tuple_lst, k1_tuple_tup, k1_list_lst, k1_list_tup, k1_rev, k1_isN, k1_notN, k2_add, k2_add_str, k2_add_lst, k2_sub, k1_isT, k1_notT, k2_mul, k2_muls, k2_fdiv, k2_mod, k2_pow6, k2_pow18, k2_pow12, k2_lt, k2_le, k2_gt, k2_ge, k2_eq, k2_ne, k2_in, k2_notin, k2_idx, idx_0, idx_1, idx_2, idx_3, idt_0, idt_1, idt_2, idt_3, k2_max, slc_str, slc_lst, slc_frl, seq_lst, seq_tup, seq_str, turnE_nx, turnE_ct, turnE_rt, turnE_bk, wipeD, backW, freeT_nil, freeT_cons, freeT1_none, freeT1_fz, freeT1_fzs, lockI, lockD_n, lockD_s, openD_n, openD_s, bindT_1, bindT_2, bindM, size_le, List.foldl_cons, List.foldl_nil, List.all_cons, List.all_nil, List.getElem?_cons_zero, List.getElem?_cons_succ, Option.join_some, Option.join_none, List.zip_cons_cons, List.zip_nil_left, List.length_cons, List.length_nil, List.length_append, Nat.reduceAdd, Nat.reduceEqDiff, Bool.false_eq_true, if_true, if_false, ↓reduceIte, ite_true, ite_false, ki_int_int, ki_int_str, ki_int_bool, ki_int_list, ki_int_tuple, ki_int_dict, ki_bl_int, ki_bl_str, ki_bl_bool, ki_bl_list, ki_bl_tuple, ki_bl_dict, ki_str_int, ki_str_str, ki_str_bool, ki_str_list, ki_str_tuple, ki_str_dict, ki_lst_int, ki_lst_str, ki_lst_bool, ki_lst_list, ki_lst_tuple, ki_lst_dict, ki_frl_int, ki_frl_str, ki_frl_bool, ki_frl_list, ki_frl_tuple, ki_frl_dict, ki_tup_int, ki_tup_str, ki_tup_bool, ki_tup_list, ki_tup_tuple, ki_tup_dict, ki_dct_int, ki_dct_str, ki_dct_bool, ki_dct_list, ki_dct_tuple, ki_dct_dict, ki_non_int, ki_non_str, ki_non_bool, ki_non_list, ki_non_tuple, ki_non_dict, kis_nil, kis_t, kis_f, Z.argsOf, Z.argOf, Z.backTo, Z.outsOf, List.any_nil, List.any_cons, eqD_bl, BEq.rfl]
          exact tr
        | true =>
          have hcut1 : cutD [D.int a, .int b, .int c, .int d] none (some 2) = [.int a, .int b] := rfl
          have hcut2 : cutD [D.int a, .int b, .int c, .int d] (some 2) none = [.int c, .int d] := rfl
          have hq := eqD_lsts (ds := [.int a, .int b]) (es := [.int c, .int d]) (fun d hd => .inl (by simp at hd; rcases hd with rfl | rfl <;> exact ⟨_, rfl⟩)) (fun d hd => .inl (by simp at hd; rcases hd with rfl | rfl <;> exact ⟨_, rfl⟩))
          have hqq : decide ([D.int a, .int b] = [.int c, .int d]) = decide (tailL a b = tailL c d) := decide_eq_decide.mpr (by
            rw [tail_inj]
            simp
            omega)
          rw [hqq] at hq
          simp only [↓We_var, ↓We_int, ↓We_str, ↓We_bl, ↓We_non, ↓We_gl, ↓We_dspc, ↓We_fs, ↓We_tup, ↓We_lst, ↓We_op1, ↓We_op2, ↓We_sm1, ↓We_slc, ↓We_isi, ↓We_and, ↓We_or, ↓We_one, ↓We_not, ↓We_ife, ↓We_chn, ↓We_pop, ↓We_call, ↓We_callk, ↓We_comp, ↓Wr_var, ↓Wr_int, ↓Wr_str, ↓Wr_bl, ↓Wr_non, ↓Wr_gl, ↓Wr_dspc, ↓Wr_fs, ↓Wr_tup, ↓Wr_lst, ↓Wr_op1, ↓Wr_op2, ↓Wr_sm1, ↓Wr_slc, ↓Wr_isi, ↓Wr_and, ↓Wr_or, ↓Wr_not, ↓Wr_ife, ↓Wr_chn, ↓Wr_pop, ↓Wr_call, ↓Wr_callk, ↓Wr_comp, ↓Ws_set, ↓Ws_unp, ↓Ws_unps, ↓Ws_app, ↓Ws_seti, ↓Ws_setf, ↓Ws_expr, ↓Ws_ife, ↓Ws_for, ↓Ws_while, ↓Ws_ret, ↓Ws_retv, ↓Ws_retn, ↓Ws_brk, ↓Ws_cont, ↓Ws_pass, ↓Wss_cons, ↓Wss_nil, ↓Wes_nil, ↓Wes_cons, ↓Wo_none, ↓Wo_some, ↓Was_nil, ↓Was_ev, ↓Was_pk, ↓Wcall_def, catA_nil, catA_cons, ↓Wsrc_seq, ↓Wsrc_rng1, ↓Wsrc_rng2, ↓Wsrc_zip, ↓seq_nx, ↓seq_rt, ↓seq_bk, ↓seq_ct, ↓seq_ex, ↓W1_some, ↓WJ_some, ↓W1_none, ↓WJ_none, ↓Wf_fz, ↓Wf_lst, ↓Wf_dct, ↓Wf_obj, ↓Wb_bl, ↓Wi_int, ↓Wif_true, ↓Wif_false, ↓Wv_fz, ↓Wv_ow, ↓Wv_owd, ↓Wv_owo, ↓Wsem_ok, ↓setR_fz, ↓setR_fr, ↓Wrv_some, ↓Wpk_some, ↓Wunp_fz, ↓Wunps_lst, ↓WisL_lst, ↓Wapp_ow, ↓Wapp_io, ↓Wseti_ow, ↓Wseti_io, ↓Wretv_fz, ↓Wretv_ow, ↓Wpop_io, ↓Wpop_ow, ↓Wturn_none, ↓Wturn_some, ↓accO_some, ↓accO_none, ↓res_val, ↓res_pk, ↓slotD_0, ↓slotD_s, W1_some, WJ_some, W1_none, WJ_none, Wf_fz, Wf_lst, Wf_dct, Wf_obj, Wb_bl, Wi_int, Wif_true, Wif_false, Wv_fz, Wv_ow, Wv_owd, Wv_owo, Wsem_ok, setR_fz, setR_fr, Wrv_some, Wpk_some, Wunp_fz, Wunps_lst, WisL_lst, Wapp_ow, Wapp_io, Wseti_ow, Wseti_io, Wretv_fz, Wretv_ow, Wpop_io, Wpop_ow, accO_some, accO_none, Int.reduceLT, Int.reduceLE, Nat.reduceLT, Nat.reduceLeDiff, Int.reduceToNat, Int.reduceAdd, Int.reduceSub, Int.reduceMul, Int.reduceNeg, decide_true, decide_false, Bool.or_true, Bool.true_or, Bool.or_false, Bool.false_or, Bool.and_true, Bool.true_and, Bool.and_false, Bool.false_and, Bool.not_true, Bool.not_false, and_true, true_and, Option.map_some, Option.map_none, Option.bind_some, Option.bind_none, List.set_cons_zero, List.set_cons_succ, k1_len_str, k1_len_tup, k1_len_lst, k1_len_frl, k1_abs, k1_neg, k1_int, k1_intb, k1_tuple_lst, k1_tuple_tup, k1_list_lst, k1_list_tup, k1_rev, k1_isN, k1_notN, k2_add, k2_add_str, k2_add_lst, k2_sub, k1_isT, k1_notT, k2_mul, k2_muls, k2_fdiv, k2_mod, k2_pow6, k2_pow18, k2_pow12, k2_lt, k2_le, k2_gt, k2_ge, k2_eq, k2_ne, k2_in, k2_notin, k2_idx, idx_0, idx_1, idx_2, idx_3, idt_0, idt_1, idt_2, idt_3, k2_max, slc_str, slc_lst, slc_frl, seq_lst, seq_tup, seq_str, turnE_nx, turnE_ct, turnE_rt, turnE_bk, wipeD, backW, freeT_nil, freeT_cons, freeT1_none, freeT1_fz, freeT1_fzs, lockI, lockD_n, lockD_s, openD_n, openD_s, bindT_1, bindT_2, bindM, size_le, List.foldl_cons, List.foldl_nil, List.all_cons, List.all_nil, List.getElem?_cons_zero, List.getElem?_cons_succ, Option.join_some, Option.join_none, List.zip_cons_cons, List.zip_nil_left, List.length_cons, List.length_nil, List.length_append, Nat.reduceAdd, Nat.reduceEqDiff, Bool.false_eq_true, if_true, if_false, ↓reduceIte, ite_true, ite_false, ki_int_int, ki_int_str, ki_int_bool, ki_int_list, ki_int_tuple, ki_int_dict, ki_bl_int, ki_bl_str, ki_bl_bool, ki_bl_list, ki_bl_tuple, ki_bl_dict, ki_str_int, ki_str_str, ki_str_bool, ki_str_list, ki_str_tuple, ki_str_dict, ki_lst_int, ki_lst_str, ki_lst_bool, ki_lst_list, ki_lst_tuple, ki_lst_dict, ki_frl_int, ki_frl_str, ki_frl_bool, ki_frl_list, ki_frl_tuple, ki_frl_dict, ki_tup_int, ki_tup_str, ki_tup_bool, ki_tup_list, ki_tup_tuple, ki_tup_dict, ki_dct_int, ki_dct_str, ki_dct_bool, ki_dct_list, ki_dct_tuple, ki_dct_dict, ki_non_int, ki_non_str, ki_non_bool, ki_non_list, ki_non_tuple, ki_non_dict, kis_nil, kis_t, kis_f, Z.argsOf, Z.argOf, Z.backTo, Z.outsOf, List.any_nil, List.any_cons, hcut1, hcut2, hq, eqD_bl, BEq.rfl]
          exact tr
      have eqn := eqD_str r1.ok.1 r2.ok.1
      have bok : ∀ {m : List Nat}, Bf m → ∀ c ∈ m, c < 1114112 := fun h c hc => by rcases h c hc with h | h <;> omega
      have eqm := eqD_str (bok r1.bf) (bok r2.bf)
      simp only [↓We_var, ↓We_int, ↓We_str, ↓We_bl, ↓We_non, ↓We_gl, ↓We_dspc, ↓We_fs, ↓We_tup, ↓We_lst, ↓We_op1, ↓We_op2, ↓We_sm1, ↓We_slc, ↓We_isi, ↓We_and, ↓We_or, ↓We_one, ↓We_not, ↓We_ife, ↓We_chn, ↓We_pop, ↓We_call, ↓We_callk, ↓We_comp, ↓Wr_var, ↓Wr_int, ↓Wr_str, ↓Wr_bl, ↓Wr_non, ↓Wr_gl, ↓Wr_dspc, ↓Wr_fs, ↓Wr_tup, ↓Wr_lst, ↓Wr_op1, ↓Wr_op2, ↓Wr_sm1, ↓Wr_slc, ↓Wr_isi, ↓Wr_and, ↓Wr_or, ↓Wr_not, ↓Wr_ife, ↓Wr_chn, ↓Wr_pop, ↓Wr_call, ↓Wr_callk, ↓Wr_comp, ↓Ws_set, ↓Ws_unp, ↓Ws_unps, ↓Ws_app, ↓Ws_seti, ↓Ws_setf, ↓Ws_expr, ↓Ws_ife, ↓Ws_for, ↓Ws_while, ↓Ws_ret, ↓Ws_retv, ↓Ws_retn, ↓Ws_brk, ↓Ws_cont, ↓Ws_pass, ↓Wss_cons, ↓Wss_nil, ↓Wes_nil, ↓Wes_cons, ↓Wo_none, ↓Wo_some, ↓Was_nil, ↓Was_ev, ↓Was_pk, ↓Wcall_def, catA_nil, catA_cons, ↓Wsrc_seq, ↓Wsrc_rng1, ↓Wsrc_rng2, ↓Wsrc_zip, ↓seq_nx, ↓seq_rt, ↓seq_bk, ↓seq_ct, ↓seq_ex, ↓W1_some, ↓WJ_some, ↓W1_none, ↓WJ_none, ↓Wf_fz, ↓Wf_lst, ↓Wf_dct, ↓Wf_obj, ↓Wb_bl, ↓Wi_int, ↓Wif_true, ↓Wif_false, ↓Wv_fz, ↓Wv_ow, ↓Wv_owd, ↓Wv_owo, ↓Wsem_ok, ↓setR_fz, ↓setR_fr, ↓Wrv_some, ↓Wpk_some, ↓Wunp_fz, ↓Wunps_lst, ↓WisL_lst, ↓Wapp_ow, ↓Wapp_io, ↓Wseti_ow, ↓Wseti_io, ↓Wretv_fz, ↓Wretv_ow, ↓Wpop_io, ↓Wpop_ow, ↓Wturn_none, ↓Wturn_some, ↓accO_some, ↓accO_none, ↓res_val, ↓res_pk, ↓slotD_0, ↓slotD_s, W1_some, WJ_some, W1_none, WJ_none, Wf_fz, Wf_lst, Wf_dct, Wf_obj, Wb_bl, Wi_int, Wif_true, Wif_false, Wv_fz, Wv_ow, Wv_owd, Wv_owo, Wsem_ok, setR_fz, setR_fr, Wrv_some, Wpk_some, Wunp_fz, Wunps_lst, WisL_lst, Wapp_ow, Wapp_io, Wseti_ow, Wseti_io, Wretv_fz, Wretv_ow, Wpop_io, Wpop_ow, accO_some, accO_none, Int.reduceLT, Int.reduceLE, Nat.reduceLT, Nat.reduceLeDiff, Int.reduceToNat, Int.reduceAdd, Int.reduceSub, Int.reduceMul, Int.reduceNeg, decide_true, decide_false, Bool.or_true, Bool.true_or, Bool.or_false, Bool.false_or, Bool.and_true, Bool.true_and, Bool.and_false, Bool.false_and, Bool.not_true, Bool.not_false, and_true, true_and, Option.map_some, Option.map_none, Option.bind_some, Option.bind_none, List.set_cons_zero, List.set_cons_succ, k1_len_str, k1_len_tup, k1_len_lst, k1_len_frl, k1_abs, k1_neg, k1_int, k1_intb, k1_tuple_lst, k1_tuple_tup, k1_list_lst, k1_list_tup, k1_rev, k1_isN, k1_notN, k2_add, k2_add_str, k2_add_lst, k2_sub, k1_isT, k1_notT, k2_mul, k2_muls, k2_fdiv, k2_mod, k2_pow6, k2_pow18, k2_pow12, k2_lt, k2_le, k2_gt, k2_ge, k2_eq, k2_ne, k2_in, k2_notin, k2_idx, idx_0, idx_1, idx_2, idx_3, idt_0, idt_1, idt_2, idt_3, k2_max, slc_str, slc_lst, slc_frl, seq_lst, seq_tup, seq_str, turnE_nx, turnE_ct, turnE_rt, turnE_bk, wipeD, backW, freeT_nil, freeT_cons, freeT1_none, freeT1_fz, freeT1_fzs, lockI, lockD_n, lockD_s, openD_n, openD_s, bindT_1, bindT_2, bindM, size_le, List.foldl_cons, List.foldl_nil, List.all_cons, List.all_nil, List.getElem?_cons_zero, List.getElem?_cons_succ, Option.join_some, Option.join_none, List.zip_cons_cons, List.zip_nil_left, List.length_cons, List.length_nil, List.length_append, Nat.reduceAdd, Nat.reduceEqDiff, Bool.false_eq_true, if_true, if_false, ↓reduceIte, ite_true, ite_false, ki_int_int, ki_int_str, ki_int_bool, ki_int_list, ki_int_tuple, ki_int_dict, ki_bl_int, ki_bl_str, ki_bl_bool, ki_bl_list, ki_bl_tuple, ki_bl_dict, ki_str_int, ki_str_str, ki_str_bool, ki_str_list, ki_str_tuple, ki_str_dict, ki_lst_int, ki_lst_str, ki_lst_bool, ki_lst_list, ki_lst_tuple, ki_lst_dict, ki_frl_int, ki_frl_str, ki_frl_bool, ki_frl_list, ki_frl_tuple, ki_frl_dict, ki_tup_int, ki_tup_str, ki_tup_bool, ki_tup_list, ki_tup_tuple, ki_tup_dict, ki_dct_int, ki_dct_str, ki_dct_bool, ki_dct_list, ki_dct_tuple, ki_dct_dict, ki_non_int, ki_non_str, ki_non_bool, ki_non_list, ki_non_tuple, ki_non_dict, kis_nil, kis_t, kis_f, Z.argsOf, Z.argOf, Z.backTo, Z.outsOf, List.any_nil, List.any_cons, Tlaw_0_10, eqn]
      refine ⟨fun h => ?_, fun h => ?_⟩
      · simp only [↓We_var, ↓We_int, ↓We_str, ↓We_bl, ↓We_non, ↓We_gl, ↓We_dspc, ↓We_fs, ↓We_tup, ↓We_lst, ↓We_op1, ↓We_op2, ↓We_sm1, ↓We_slc, ↓We_isi, ↓We_and, ↓We_or, ↓We_one, ↓We_not, ↓We_ife, ↓We_chn, ↓We_pop, ↓We_call, ↓We_callk, ↓We_comp, ↓Wr_var, ↓Wr_int, ↓Wr_str, ↓Wr_bl, ↓Wr_non, ↓Wr_gl, ↓Wr_dspc, ↓Wr_fs, ↓Wr_tup, ↓Wr_lst, ↓Wr_op1, ↓Wr_op2, ↓Wr_sm1, ↓Wr_slc, ↓Wr_isi, ↓Wr_and, ↓Wr_or, ↓Wr_not, ↓Wr_ife, ↓Wr_chn, ↓Wr_pop, ↓Wr_call, ↓Wr_callk, ↓Wr_comp, ↓Ws_set, ↓Ws_unp, ↓Ws_unps, ↓Ws_app, ↓Ws_seti, ↓Ws_setf, ↓Ws_expr, ↓Ws_ife, ↓Ws_for, ↓Ws_while, ↓Ws_ret, ↓Ws_retv, ↓Ws_retn, ↓Ws_brk, ↓Ws_cont, ↓Ws_pass, ↓Wss_cons, ↓Wss_nil, ↓Wes_nil, ↓Wes_cons, ↓Wo_none, ↓Wo_some, ↓Was_nil, ↓Was_ev, ↓Was_pk, ↓Wcall_def, catA_nil, catA_cons, ↓Wsrc_seq, ↓Wsrc_rng1, ↓Wsrc_rng2, ↓Wsrc_zip, ↓seq_nx, ↓seq_rt, ↓seq_bk, ↓seq_ct, ↓seq_ex, ↓W1_some, ↓WJ_some, ↓W1_none, ↓WJ_none, ↓Wf_fz, ↓Wf_lst, ↓Wf_dct, ↓Wf_obj, ↓Wb_bl, ↓Wi_int, ↓Wif_true, ↓Wif_false, ↓Wv_fz, ↓Wv_ow, ↓Wv_owd, ↓Wv_owo, ↓Wsem_ok, ↓setR_fz, ↓setR_fr, ↓Wrv_some, ↓Wpk_some, ↓Wunp_fz, ↓Wunps_lst, ↓WisL_lst, ↓Wapp_ow, ↓Wapp_io, ↓Wseti_ow, ↓Wseti_io, ↓Wretv_fz, ↓Wretv_ow, ↓Wpop_io, ↓Wpop_ow, ↓Wturn_none, ↓Wturn_some, ↓accO_some, ↓accO_none, ↓res_val, ↓res_pk, ↓slotD_0, ↓slotD_s, W1_some, WJ_some, W1_none, WJ_none, Wf_fz, Wf_lst, Wf_dct, Wf_obj, Wb_bl, Wi_int, Wif_true, Wif_false, Wv_fz, Wv_ow, Wv_owd, Wv_owo, Wsem_ok, setR_fz, setR_fr, Wrv_some, Wpk_some, Wunp_fz, Wunps_lst, WisL_lst, Wapp_ow, Wapp_io, Wseti_ow, Wseti_io, Wretv_fz, Wretv_ow, Wpop_io, Wpop_ow, accO_some, accO_none, Int.reduceLT, Int.reduceLE, Nat.reduceLT, Nat.reduceLeDiff, Int.reduceToNat, Int.reduceAdd, Int.reduceSub, Int.reduceMul, Int.reduceNeg, decide_true, decide_false, Bool.or_true, Bool.true_or, Bool.or_false, Bool.false_or, Bool.and_true, Bool.true_and, Bool.and_false, Bool.false_and, Bool.not_true, Bool.not_false, and_true, true_and, Option.map_some, Option.map_none, Option.bind_some, Option.bind_none, List.set_cons_zero, List.set_cons_succ, k1_len_str, k1_len_tup, k1_len_lst, k1_len_frl, k1_abs, k1_neg, k1_int, k1_intb, k1_tuple_lst, k1_tuple_tup, k1_list_lst, k1_list_tup, k1_rev, k1_isN, k1_notN, k2_add, k2_add_str, k2_add_lst, k2_sub, k1_isT, k1_notT, k2_mul, k2_muls, k2_fdiv, k2_mod, k2_pow6, k2_pow18, k2_pow12, k2_lt, k2_le, k2_gt, k2_ge, k2_eq, k2_ne, k2_in, k2_notin, k2_idx, idx_0, idx_1, idx_2, idx_3, idt_0, idt_1, idt_2, idt_3, k2_max, slc_str, slc_lst, slc_frl, seq_lst, seq_tup, seq_str, turnE_nx, turnE_ct, turnE_rt, turnE_bk, wipeD, backW, freeT_nil, freeT_cons, freeT1_none, freeT1_fz, freeT1_fzs, lockI, lockD_n, lockD_s, openD_n, openD_s, bindT_1, bindT_2, bindM, size_le, List.foldl_cons, List.foldl_nil, List.all_cons, List.all_nil, List.getElem?_cons_zero, List.getElem?_cons_succ, Option.join_some, Option.join_none, List.zip_cons_cons, List.zip_nil_left, List.length_cons, List.length_nil, List.length_append, Nat.reduceAdd, Nat.reduceEqDiff, Bool.false_eq_true, if_true, if_false, ↓reduceIte, ite_true, ite_false, ki_int_int, ki_int_str, ki_int_bool, ki_int_list, ki_int_tuple, ki_int_dict, ki_bl_int, ki_bl_str, ki_bl_bool, ki_bl_list, ki_bl_tuple, ki_bl_dict, ki_str_int, ki_str_str, ki_str_bool, ki_str_list, ki_str_tuple, ki_str_dict, ki_lst_int, ki_lst_str, ki_lst_bool, ki_lst_list, ki_lst_tuple, ki_lst_dict, ki_frl_int, ki_frl_str, ki_frl_bool, ki_frl_list, ki_frl_tuple, ki_frl_dict, ki_tup_int, ki_tup_str, ki_tup_bool, ki_tup_list, ki_tup_tuple, ki_tup_dict, ki_dct_int, ki_dct_str, ki_dct_bool, ki_dct_list, ki_dct_tuple, ki_dct_dict, ki_non_int, ki_non_str, ki_non_bool, ki_non_list, ki_non_tuple, ki_non_dict, kis_nil, kis_t, kis_f, Z.argsOf, Z.argOf, Z.backTo, Z.outsOf, List.any_nil, List.any_cons, eqm]
        exact hAl _ (by rw [h, Bool.true_and])
      · exact hAl _ (by rw [h, Bool.false_and])
  have R1 : Rm n1 m1 := ⟨ok1, l1, nm1, b1, ml1⟩
  have R2 : Rm n2 m2 := ⟨ok2, l2, nm2, b2, ml2⟩
  simp only [↓We_var, ↓We_int, ↓We_str, ↓We_bl, ↓We_non, ↓We_gl, ↓We_dspc, ↓We_fs, ↓We_tup, ↓We_lst, ↓We_op1, ↓We_op2, ↓We_sm1, ↓We_slc, ↓We_isi, ↓We_and, ↓We_or, ↓We_one, ↓We_not, ↓We_ife, ↓We_chn, ↓We_pop, ↓We_call, ↓We_callk, ↓We_comp, ↓Wr_var, ↓Wr_int, ↓Wr_str, ↓Wr_bl, ↓Wr_non, ↓Wr_gl, ↓Wr_dspc, ↓Wr_fs, ↓Wr_tup, ↓Wr_lst, ↓Wr_op1, ↓Wr_op2, ↓Wr_sm1, ↓Wr_slc, ↓Wr_isi, ↓Wr_and, ↓Wr_or, ↓Wr_not, ↓Wr_ife, ↓Wr_chn, ↓Wr_pop, ↓Wr_call, ↓Wr_callk, ↓Wr_comp, ↓Ws_set, ↓Ws_unp, ↓Ws_unps, ↓Ws_app, ↓Ws_seti, ↓Ws_setf, ↓Ws_expr, ↓Ws_ife, ↓Ws_for, ↓Ws_while, ↓Ws_ret, ↓Ws_retv, ↓Ws_retn, ↓Ws_brk, ↓Ws_cont, ↓Ws_pass, ↓Wss_cons, ↓Wss_nil, ↓Wes_nil, ↓Wes_cons, ↓Wo_none, ↓Wo_some, ↓Was_nil, ↓Was_ev, ↓Was_pk, ↓Wcall_def, catA_nil, catA_cons, ↓Wsrc_seq, ↓Wsrc_rng1, ↓Wsrc_rng2, ↓Wsrc_zip, ↓seq_nx, ↓seq_rt, ↓seq_bk, ↓seq_ct, ↓seq_ex, ↓W1_some, ↓WJ_some, ↓W1_none, ↓WJ_none, ↓Wf_fz, ↓Wf_lst, ↓Wf_dct, ↓Wf_obj, ↓Wb_bl, ↓Wi_int, ↓Wif_true, ↓Wif_false, ↓Wv_fz, ↓Wv_ow, ↓Wv_owd, ↓Wv_owo, ↓Wsem_ok, ↓setR_fz, ↓setR_fr, ↓Wrv_some, ↓Wpk_some, ↓Wunp_fz, ↓Wunps_lst, ↓WisL_lst, ↓Wapp_ow, ↓Wapp_io, ↓Wseti_ow, ↓Wseti_io, ↓Wretv_fz, ↓Wretv_ow, ↓Wpop_io, ↓Wpop_ow, ↓Wturn_none, ↓Wturn_some, ↓accO_some, ↓accO_none, ↓res_val, ↓res_pk, ↓slotD_0, ↓slotD_s, W1_some, WJ_some, W1_none, WJ_none, Wf_fz, Wf_lst, Wf_dct, Wf_obj, Wb_bl, Wi_int, Wif_true, Wif_false, Wv_fz, Wv_ow, Wv_owd, Wv_owo, Wsem_ok, setR_fz, setR_fr, Wrv_some, Wpk_some, Wunp_fz, Wunps_lst, WisL_lst, Wapp_ow, Wapp_io, Wseti_ow, Wseti_io, Wretv_fz, Wretv_ow, Wpop_io, Wpop_ow, accO_some, accO_none, Int.reduceLT, Int.reduceLE, Nat.reduceLT, Nat.reduceLeDiff, Int.reduceToNat, Int.reduceAdd, Int.reduceSub, Int.reduceMul, Int.reduceNeg, decide_true, decide_false, Bool.or_true, Bool.true_or, Bool.or_false, Bool.false_or, Bool.and_true, Bool.true_and, Bool.and_false, Bool.false_and, Bool.not_true, Bool.not_false, and_true, true_and, Option.map_some, Option.map_none, Option.bind_some, Option.bind_none, List.set_cons_zero, List.set_cons_succ, k1_len_str, k1_len_tup, k1_len_lst, k1_len_frl, k1_abs, k1_neg, k1_int, k1_intb, k1_tuple_lst, k1_tuple_tup, k1_list_lst, k1_list_tup, k1_rev, k1_isN, k1_notN, k2_add, k2_add_str, k2_add_lst, k2_sub, k1_isT, k1_notT, k2_mul, k2_muls, k2_fdiv, k2_mod, k2_pow6, k2_pow18, k2_pow12, k2_lt, k2_le, k2_gt, k2_ge, k2_eq, k2_ne, k2_in, k2_notin, k2_idx, idx_0, idx_1, idx_2, idx_3, idt_0, idt_1, idt_2, idt_3, k2_max, slc_str, slc_lst, slc_frl, seq_lst, seq_tup, seq_str, turnE_nx, turnE_ct, turnE_rt, turnE_bk, wipeD, backW, freeT_nil, freeT_cons, freeT1_none, freeT1_fz, freeT1_fzs, lockI, lockD_n, lockD_s, openD_n, openD_s, bindT_1, bindT_2, bindM, size_le, List.foldl_cons, List.foldl_nil, List.all_cons, List.all_nil, List.getElem?_cons_zero, List.getElem?_cons_succ, Option.join_some, Option.join_none, List.zip_cons_cons, List.zip_nil_left, List.length_cons, List.length_nil, List.length_append, Nat.reduceAdd, Nat.reduceEqDiff, Bool.false_eq_true, if_true, if_false, ↓reduceIte, ite_true, ite_false, ki_int_int, ki_int_str, ki_int_bool, ki_int_list, ki_int_tuple, ki_int_dict, ki_bl_int, ki_bl_str, ki_bl_bool, ki_bl_list, ki_bl_tuple, ki_bl_dict, ki_str_int, ki_str_str, ki_str_bool, ki_str_list, ki_str_tuple, ki_str_dict, ki_lst_int, ki_lst_str, ki_lst_bool, ki_lst_list, ki_lst_tuple, ki_lst_dict, ki_frl_int, ki_frl_str, ki_frl_bool, ki_frl_list, ki_frl_tuple, ki_frl_dict, ki_tup_int, ki_tup_str, ki_tup_bool, ki_tup_list, ki_tup_tuple, ki_tup_dict, ki_dct_int, ki_dct_str, ki_dct_bool, ki_dct_list, ki_dct_tuple, ki_dct_dict, ki_non_int, ki_non_str, ki_non_bool, ki_non_list, ki_non_tuple, ki_non_dict, kis_nil, kis_t, kis_f, Z.argsOf, Z.argOf, Z.backTo, Z.outsOf, List.any_nil, List.any_cons, Tlaw_0_4, eqD_int, Tlaw_1_0, ix21]
  refine ⟨fun h => ?_, fun h => ?_⟩
  · have h : (v : Int) = 1 := of_decide_eq_true h
    have h2 : decide ((v : Int) = 2) = false := by rw [h]; rfl
    simp only [↓We_var, ↓We_int, ↓We_str, ↓We_bl, ↓We_non, ↓We_gl, ↓We_dspc, ↓We_fs, ↓We_tup, ↓We_lst, ↓We_op1, ↓We_op2, ↓We_sm1, ↓We_slc, ↓We_isi, ↓We_and, ↓We_or, ↓We_one, ↓We_not, ↓We_ife, ↓We_chn, ↓We_pop, ↓We_call, ↓We_callk, ↓We_comp, ↓Wr_var, ↓Wr_int, ↓Wr_str, ↓Wr_bl, ↓Wr_non, ↓Wr_gl, ↓Wr_dspc, ↓Wr_fs, ↓Wr_tup, ↓Wr_lst, ↓Wr_op1, ↓Wr_op2, ↓Wr_sm1, ↓Wr_slc, ↓Wr_isi, ↓Wr_and, ↓Wr_or, ↓Wr_not, ↓Wr_ife, ↓Wr_chn, ↓Wr_pop, ↓Wr_call, ↓Wr_callk, ↓Wr_comp, ↓Ws_set, ↓Ws_unp, ↓Ws_unps, ↓Ws_app, ↓Ws_seti, ↓Ws_setf, ↓Ws_expr, ↓Ws_ife, ↓Ws_for, ↓Ws_while, ↓Ws_ret, ↓Ws_retv, ↓Ws_retn, ↓Ws_brk, ↓Ws_cont, ↓Ws_pass, ↓Wss_cons, ↓Wss_nil, ↓Wes_nil, ↓Wes_cons, ↓Wo_none, ↓Wo_some, ↓Was_nil, ↓Was_ev, ↓Was_pk, ↓Wcall_def, catA_nil, catA_cons, ↓Wsrc_seq, ↓Wsrc_rng1, ↓Wsrc_rng2, ↓Wsrc_zip, ↓seq_nx, ↓seq_rt, ↓seq_bk, ↓seq_ct, ↓seq_ex, ↓W1_some, ↓WJ_some, ↓W1_none, ↓WJ_none, ↓Wf_fz, ↓Wf_lst, ↓Wf_dct, ↓Wf_obj, ↓Wb_bl, ↓Wi_int, ↓Wif_true, ↓Wif_false, ↓Wv_fz, ↓Wv_ow, ↓Wv_owd, ↓Wv_owo, ↓Wsem_ok, ↓setR_fz, ↓setR_fr, ↓Wrv_some, ↓Wpk_some, ↓Wunp_fz, ↓Wunps_lst, ↓WisL_lst, ↓Wapp_ow, ↓Wapp_io, ↓Wseti_ow, ↓Wseti_io, ↓Wretv_fz, ↓Wretv_ow, ↓Wpop_io, ↓Wpop_ow, ↓Wturn_none, ↓Wturn_some, ↓accO_some, ↓accO_none, ↓res_val, ↓res_pk, ↓slotD_0, ↓slotD_s, W1_some, WJ_some, W1_none, WJ_none, Wf_fz, Wf_lst, Wf_dct, Wf_obj, Wb_bl, Wi_int, Wif_true, Wif_false, Wv_fz, Wv_ow, Wv_owd, Wv_owo, Wsem_ok, setR_fz, setR_fr, Wrv_some, Wpk_some, Wunp_fz, Wunps_lst, WisL_lst, Wapp_ow, Wapp_io, Wseti_ow, Wseti_io, Wretv_fz, Wretv_ow, Wpop_io, Wpop_ow, accO_some, accO_none, Int.reduceLT, Int.reduceLE, Nat.reduceLT, Nat.reduceLeDiff, Int.reduceToNat, Int.reduceAdd, Int.reduceSub, Int.reduceMul, Int.reduceNeg, decide_true, decide_false, Bool.or_true, Bool.true_or, Bool.or_false, Bool.false_or, Bool.and_true, Bool.true_and, Bool.and_false, Bool.false_and, Bool.not_true, Bool.not_false, and_true, true_and, Option.map_some, Option.map_none, Option.bind_some, Option.bind_none, List.set_cons_zero, List.set_cons_succ, k1_len_str, k1_len_tup, k1_len_lst, k1_len_frl, k1_abs, k1_neg, k1_int, k1_intb, k1_tuple_lst, k1_tuple_tup, k1_list_lst, k1_list_tup, k1_rev, k1_isN, k1_notN, k2_add, k2_add_str, k2_add_lst, k2_sub, k1_isT, k1_notT, k2_mul, k2_muls, k2_fdiv, k2_mod, k2_pow6, k2_pow18, k2_pow12, k2_lt, k2_le, k2_gt, k2_ge, k2_eq, k2_ne, k2_in, k2_notin, k2_idx, idx_0, idx_1, idx_2, idx_3, idt_0, idt_1, idt_2, idt_3, k2_max, slc_str, slc_lst, slc_frl, seq_lst, seq_tup, seq_str, turnE_nx, turnE_ct, turnE_rt, turnE_bk, wipeD, backW, freeT_nil, freeT_cons, freeT1_none, freeT1_fz, freeT1_fzs, lockI, lockD_n, lockD_s, openD_n, openD_s, bindT_1, bindT_2, bindM, size_le, List.foldl_cons, List.foldl_nil, List.all_cons, List.all_nil, List.getElem?_cons_zero, List.getElem?_cons_succ, Option.join_some, Option.join_none, List.zip_cons_cons, List.zip_nil_left, List.length_cons, List.length_nil, List.length_append, Nat.reduceAdd, Nat.reduceEqDiff, Bool.false_eq_true, if_true, if_false, ↓reduceIte, ite_true, ite_false, ki_int_int, ki_int_str, ki_int_bool, ki_int_list, ki_int_tuple, ki_int_dict, ki_bl_int, ki_bl_str, ki_bl_bool, ki_bl_list, ki_bl_tuple, ki_bl_dict, ki_str_int, ki_str_str, ki_str_bool, ki_str_list, ki_str_tuple, ki_str_dict, ki_lst_int, ki_lst_str, ki_lst_bool, ki_lst_list, ki_lst_tuple, ki_lst_dict, ki_frl_int, ki_frl_str, ki_frl_bool, ki_frl_list, ki_frl_tuple, ki_frl_dict, ki_tup_int, ki_tup_str, ki_tup_bool, ki_tup_list, ki_tup_tuple, ki_tup_dict, ki_dct_int, ki_dct_str, ki_dct_bool, ki_dct_list, ki_dct_tuple, ki_dct_dict, ki_non_int, ki_non_str, ki_non_bool, ki_non_list, ki_non_tuple, ki_non_dict, kis_nil, kis_t, kis_f, Z.argsOf, Z.argOf, Z.backTo, Z.outsOf, List.any_nil, List.any_cons, Tlaw_0_5, eqD_int, h2]
    exact k6 n1 n1 m1 m2 R1 ⟨ok1, l1, nm1, b2, ml2⟩
  · simp only [↓We_var, ↓We_int, ↓We_str, ↓We_bl, ↓We_non, ↓We_gl, ↓We_dspc, ↓We_fs, ↓We_tup, ↓We_lst, ↓We_op1, ↓We_op2, ↓We_sm1, ↓We_slc, ↓We_isi, ↓We_and, ↓We_or, ↓We_one, ↓We_not, ↓We_ife, ↓We_chn, ↓We_pop, ↓We_call, ↓We_callk, ↓We_comp, ↓Wr_var, ↓Wr_int, ↓Wr_str, ↓Wr_bl, ↓Wr_non, ↓Wr_gl, ↓Wr_dspc, ↓Wr_fs, ↓Wr_tup, ↓Wr_lst, ↓Wr_op1, ↓Wr_op2, ↓Wr_sm1, ↓Wr_slc, ↓Wr_isi, ↓Wr_and, ↓Wr_or, ↓Wr_not, ↓Wr_ife, ↓Wr_chn, ↓Wr_pop, ↓Wr_call, ↓Wr_callk, ↓Wr_comp, ↓Ws_set, ↓Ws_unp, ↓Ws_unps, ↓Ws_app, ↓Ws_seti, ↓Ws_setf, ↓Ws_expr, ↓Ws_ife, ↓Ws_for, ↓Ws_while, ↓Ws_ret, ↓Ws_retv, ↓Ws_retn, ↓Ws_brk, ↓Ws_cont, ↓Ws_pass, ↓Wss_cons, ↓Wss_nil, ↓Wes_nil, ↓Wes_cons, ↓Wo_none, ↓Wo_some, ↓Was_nil, ↓Was_ev, ↓Was_pk, ↓Wcall_def, catA_nil, catA_cons, ↓Wsrc_seq, ↓Wsrc_rng1, ↓Wsrc_rng2, ↓Wsrc_zip, ↓seq_nx, ↓seq_rt, ↓seq_bk, ↓seq_ct, ↓seq_ex, ↓W1_some, ↓WJ_some, ↓W1_none, ↓WJ_none, ↓Wf_fz, ↓Wf_lst, ↓Wf_dct, ↓Wf_obj, ↓Wb_bl, ↓Wi_int, ↓Wif_true, ↓Wif_false, ↓Wv_fz, ↓Wv_ow, ↓Wv_owd, ↓Wv_owo, ↓Wsem_ok, ↓setR_fz, ↓setR_fr, ↓Wrv_some, ↓Wpk_some, ↓Wunp_fz, ↓Wunps_lst, ↓WisL_lst, ↓Wapp_ow, ↓Wapp_io, ↓Wseti_ow, ↓Wseti_io, ↓Wretv_fz, ↓Wretv_ow, ↓Wpop_io, ↓Wpop_ow, ↓Wturn_none, ↓Wturn_some, ↓accO_some, ↓accO_none, ↓res_val, ↓res_pk, ↓slotD_0, ↓slotD_s, W1_some, WJ_some, W1_none, WJ_none, Wf_fz, Wf_lst, Wf_dct, Wf_obj, Wb_bl, Wi_int, Wif_true, Wif_false, Wv_fz, Wv_ow, Wv_owd, Wv_owo, Wsem_ok, setR_fz, setR_fr, Wrv_some, Wpk_some, Wunp_fz, Wunps_lst, WisL_lst, Wapp_ow, Wapp_io, Wseti_ow, Wseti_io, Wretv_fz, Wretv_ow, Wpop_io, Wpop_ow, accO_some, accO_none, Int.reduceLT, Int.reduceLE, Nat.reduceLT, Nat.reduceLeDiff, Int.reduceToNat, Int.reduceAdd, Int.reduceSub, Int.reduceMul, Int.reduceNeg, decide_true, decide_false, Bool.or_true, Bool.true_or, Bool.or_false, Bool.false_or, Bool.and_true, Bool.true_and, Bool.and_false, Bool.false_and, Bool.not_true, Bool.not_false, and_true, true_and, Option.map_some, Option.map_none, Option.bind_some, Option.bind_none, List.set_cons_zero, List.set_cons_succ, k1_len_str, k1_len_tup, k1_len_lst, k1_len_frl, k1_abs, k1_neg, k1_int, k1_intb, k1_tuple_lst, k1_tuple_tup, k1_list_lst, k1_list_tup, k1_rev, k1_isN, k1_notN, k2_add, k2_add_str, k2_add_lst, k2_sub, k1_isT, k1_notT, k2_mul, k2_muls, k2_fdiv, k2_mod, k2_pow6, k2_pow18, k2_pow12, k2_lt, k2_le, k2_gt, k2_ge, k2_eq, k2_ne, k2_in, k2_notin, k2_idx, idx_0, idx_1, idx_2, idx_3, idt_0, idt_1, idt_2, idt_3, k2_max, slc_str, slc_lst, slc_frl, seq_lst, seq_tup, seq_str, turnE_nx, turnE_ct, turnE_rt, turnE_bk, wipeD, backW, freeT_nil, freeT_cons, freeT1_none, freeT1_fz, freeT1_fzs, lockI, lockD_n, lockD_s, openD_n, openD_s, bindT_1, bindT_2, bindM, size_le, List.foldl_cons, List.foldl_nil, List.all_cons, List.all_nil, List.getElem?_cons_zero, List.getElem?_cons_succ, Option.join_some, Option.join_none, List.zip_cons_cons, List.zip_nil_left, List.length_cons, List.length_nil, List.length_append, Nat.reduceAdd, Nat.reduceEqDiff, Bool.false_eq_true, if_true, if_false, ↓reduceIte, ite_true, ite_false, ki_int_int, ki_int_str, ki_int_bool, ki_int_list, ki_int_tuple, ki_int_dict, ki_bl_int, ki_bl_str, ki_bl_bool, ki_bl_list, ki_bl_tuple, ki_bl_dict, ki_str_int, ki_str_str, ki_str_bool, ki_str_list, ki_str_tuple, ki_str_dict, ki_lst_int, ki_lst_str, ki_lst_bool, ki_lst_list, ki_lst_tuple, ki_lst_dict, ki_frl_int, ki_frl_str, ki_frl_bool, ki_frl_list, ki_frl_tuple, ki_frl_dict, ki_tup_int, ki_tup_str, ki_tup_bool, ki_tup_list, ki_tup_tuple, ki_tup_dict, ki_dct_int, ki_dct_str, ki_dct_bool, ki_dct_list, ki_dct_tuple, ki_dct_dict, ki_non_int, ki_non_str, ki_non_bool, ki_non_list, ki_non_tuple, ki_non_dict, kis_nil, kis_t, kis_f, Z.argsOf, Z.argOf, Z.backTo, Z.outsOf, List.any_nil, List.any_cons, Tlaw_0_5, eqD_int, Tlaw_2_0, ix21]
    refine ⟨fun h => ?_, fun h => ?_⟩
    · exact k6 n1 n2 m1 m1 R1 ⟨ok2, l2, nm2, b1, ml1⟩
    · exact k6 n1 n2 m1 m2 R1 R2
end Gk02
namespace Gk02
open PySem L2 Z
/-! ### the program's text -/
def top (i : Nat) : Stmt := PySem.Challenge.pw_askedfacts_k02_new_names.main.body.getD i (.Pass ⟨0, 0, 0, 0⟩)
abbrev bls : List Str := ["abs", "all", "int", "isinstance", "len", "max", "range", "str"]
abbrev gls : List (Str × D) := [("DIGITS", (.str [48, 49, 50, 51, 52, 53, 54, 55, 56, 57])), ("SMALL", (.str [97, 98, 99, 100, 101, 102, 103, 104, 105, 106, 107, 108, 109, 110, 111, 112, 113, 114, 115, 116, 117, 118, 119, 120, 121, 122]))]
abbrev onms : List Str := ["_law_mode", "_law_side", "law"]
abbrev kwl : List (List Str) := gkws ++ [[], [], []]
abbrev nms : List Str := gnms ++ onms
abbrev s_law_flow : Stmt := top 12
abbrev N_law_flow : List Str := ["_law_script", "_law_flow_here", "_law_cells", "_law_k", "_law_size", "_law_j", "_law_mixed"]
abbrev P_law_flow : List Str := ["_law_script"]
theorem sc_law_flow : FnScope N_law_flow P_law_flow (defScope s_law_flow) := ⟨rfl, rfl, rfl, by decide +kernel, rfl, by decide +kernel, by decide +kernel⟩
theorem ck_law_flow : ckSs ⟨N_law_flow, bls, nms, gls, fun i => kwl.getD i []⟩ B_law_flow (defScope s_law_flow) (defBody s_law_flow) = true := by decide +kernel
abbrev s_law_draw : Stmt := top 13
abbrev N_law_draw : List Str := ["_law_flow_here", "_law_many"]
abbrev P_law_draw : List Str := ["_law_flow_here", "_law_many"]
theorem sc_law_draw : FnScope N_law_draw P_law_draw (defScope s_law_draw) := ⟨rfl, rfl, rfl, by decide +kernel, rfl, by decide +kernel, by decide +kernel⟩
theorem ck_law_draw : ckSs ⟨N_law_draw, bls, nms, gls, fun i => kwl.getD i []⟩ B_law_draw (defScope s_law_draw) (defBody s_law_draw) = true := by decide +kernel
abbrev s_law_word : Stmt := top 14
abbrev N_law_word : List Str := ["_law_flow_here", "_law_text", "_law_k"]
abbrev P_law_word : List Str := ["_law_flow_here"]
theorem sc_law_word : FnScope N_law_word P_law_word (defScope s_law_word) := ⟨rfl, rfl, rfl, by decide +kernel, rfl, by decide +kernel, by decide +kernel⟩
theorem ck_law_word : ckSs ⟨N_law_word, bls, nms, gls, fun i => kwl.getD i []⟩ B_law_word (defScope s_law_word) (defBody s_law_word) = true := by decide +kernel
abbrev s_law_mode : Stmt := top 15
abbrev N_law_mode : List Str := ["_law_flow_here", "_law_k"]
abbrev P_law_mode : List Str := ["_law_flow_here"]
theorem sc_law_mode : FnScope N_law_mode P_law_mode (defScope s_law_mode) := ⟨rfl, rfl, rfl, by decide +kernel, rfl, by decide +kernel, by decide +kernel⟩
theorem ck_law_mode : ckSs ⟨N_law_mode, bls, nms, gls, fun i => kwl.getD i []⟩ B_law_mode (defScope s_law_mode) (defBody s_law_mode) = true := by decide +kernel
abbrev s_law_side : Stmt := top 16
abbrev N_law_side : List Str := ["_law_text", "_law_most", "_law_many", "_law_char"]
abbrev P_law_side : List Str := ["_law_text"]
theorem sc_law_side : FnScope N_law_side P_law_side (defScope s_law_side) := ⟨rfl, rfl, rfl, by decide +kernel, rfl, by decide +kernel, by decide +kernel⟩
theorem ck_law_side : ckSs ⟨N_law_side, bls, nms, gls, fun i => kwl.getD i []⟩ B_law_side (defScope s_law_side) (defBody s_law_side) = true := by decide +kernel
abbrev smarked : Stmt := top 8
abbrev Nmarked : List Str := ["name", "mode", "level"]
abbrev Pmarked : List Str := ["name", "mode", "level"]
theorem scmarked : FnScope Nmarked Pmarked (defScope smarked) := ⟨rfl, rfl, rfl, by decide +kernel, rfl, by decide +kernel, by decide +kernel⟩
theorem ckmarked : ckSs ⟨Nmarked, bls, nms, gls, fun i => kwl.getD i []⟩ Bmarked (defScope smarked) (defBody smarked) = true := by decide +kernel
abbrev sasked : Stmt := top 9
abbrev Nasked : List Str := ["name", "mode", "level"]
abbrev Pasked : List Str := ["name", "mode", "level"]
theorem scasked : FnScope Nasked Pasked (defScope sasked) := ⟨rfl, rfl, rfl, by decide +kernel, rfl, by decide +kernel, by decide +kernel⟩
theorem ckasked : ckSs ⟨Nasked, bls, nms, gls, fun i => kwl.getD i []⟩ Basked (defScope sasked) (defBody sasked) = true := by decide +kernel
abbrev sstepped : Stmt := top 10
abbrev Nstepped : List Str := ["name", "mode", "rule", "length", "level"]
abbrev Pstepped : List Str := ["name", "mode", "rule", "length", "level"]
theorem scstepped : FnScope Nstepped Pstepped (defScope sstepped) := ⟨rfl, rfl, rfl, by decide +kernel, rfl, by decide +kernel, by decide +kernel⟩
theorem ckstepped : ckSs ⟨Nstepped, bls, nms, gls, fun i => kwl.getD i []⟩ Bstepped (defScope sstepped) (defBody sstepped) = true := by decide +kernel
abbrev shas_only : Stmt := top 3
abbrev Nhas_only : List Str := ["text", "characters", "char"]
abbrev Phas_only : List Str := ["text", "characters"]
theorem schas_only : FnScope Nhas_only Phas_only (defScope shas_only) := ⟨rfl, rfl, rfl, by decide +kernel, rfl, by decide +kernel, by decide +kernel⟩
theorem ckhas_only : ckSs ⟨Nhas_only, bls, nms, gls, fun i => kwl.getD i []⟩ Bhas_only (defScope shas_only) (defBody shas_only) = true := by decide +kernel
abbrev sis_word : Stmt := top 5
abbrev Nis_word : List Str := ["text"]
abbrev Pis_word : List Str := ["text"]
theorem scis_word : FnScope Nis_word Pis_word (defScope sis_word) := ⟨rfl, rfl, rfl, by decide +kernel, rfl, by decide +kernel, by decide +kernel⟩
theorem ckis_word : ckSs ⟨Nis_word, bls, nms, gls, fun i => kwl.getD i []⟩ Bis_word (defScope sis_word) (defBody sis_word) = true := by decide +kernel
abbrev sis_number : Stmt := top 4
abbrev Nis_number : List Str := ["text", "most_digits"]
abbrev Pis_number : List Str := ["text", "most_digits"]
theorem scis_number : FnScope Nis_number Pis_number (defScope sis_number) := ⟨rfl, rfl, rfl, by decide +kernel, rfl, by decide +kernel, by decide +kernel⟩
theorem ckis_number : ckSs ⟨Nis_number, bls, nms, gls, fun i => kwl.getD i []⟩ Bis_number (defScope sis_number) (defBody sis_number) = true := by decide +kernel
abbrev sis_mark : Stmt := top 6
abbrev Nis_mark : List Str := ["text", "rest", "parts"]
abbrev Pis_mark : List Str := ["text"]
theorem scis_mark : FnScope Nis_mark Pis_mark (defScope sis_mark) := ⟨rfl, rfl, rfl, by decide +kernel, rfl, by decide +kernel, by decide +kernel⟩
theorem ckis_mark : ckSs ⟨Nis_mark, bls, nms, gls, fun i => kwl.getD i []⟩ Bis_mark (defScope sis_mark) (defBody sis_mark) = true := by decide +kernel
abbrev sis_name : Stmt := top 7
abbrev Nis_name : List Str := ["value", "word", "marks", "mark"]
abbrev Pis_name : List Str := ["value"]
theorem scis_name : FnScope Nis_name Pis_name (defScope sis_name) := ⟨rfl, rfl, rfl, by decide +kernel, rfl, by decide +kernel, by decide +kernel⟩
theorem ckis_name : ckSs ⟨Nis_name, bls, nms, gls, fun i => kwl.getD i []⟩ Bis_name (defScope sis_name) (defBody sis_name) = true := by decide +kernel
abbrev slaw : Stmt := top 17
abbrev Nlaw : List Str := ["_law_script", "_law_flow_here", "_law_names", "_law_modes", "_law_same", "_law_numbers", "_law_k", "_law_high", "_law_told", "_law_name", "_law_mode_here", "_law_first", "_law_second", "_law_tail", "_law_start", "_law_due", "_law_back", "_law_j", "_law_alike", "_law_i"]
abbrev Plaw : List Str := ["_law_script"]
theorem sclaw : FnScope Nlaw Plaw (defScope slaw) := ⟨rfl, rfl, rfl, by decide +kernel, rfl, by decide +kernel, by decide +kernel⟩
theorem cklaw : ckSs ⟨Nlaw, bls, nms, gls, fun i => kwl.getD i []⟩ Blaw (defScope slaw) (defBody slaw) = true := by decide +kernel
/-- the table: no classes, no exceptions -/
abbrev tab (K : PySem.W.Frag) : Tab := ⟨K, fun _ => none, fun _ => none⟩
theorem all_mk {l : PySem.W.OpenLaw} {w : World} {K : PySem.W.Frag} {h : Heap} {mg : Str → Option Value} {fa f1 f2 f3 f4 f5 f6 f7 f8 f9 f10 f11 f12 f13 f14 : Addr} (X : K.In h) (G : h.Ns mainGlobals mg) (hfa : mg "law" = some (.ref fa))
    {od1 an1 od2 an2 od3 an3 od4 an4 od5 an5 od6 an6 od7 an7 od8 an8 od9 an9 od10 an10 od11 an11 od12 an12 od13 an13 od14 an14 : Option Addr} {sl1 sl2 sl3 sl4 sl5 sl6 sl7 sl8 sl9 sl10 sl11 sl12 sl13 sl14 : Array (Option Value)} {oc1 kV1 dc1 pm1 cd1 ct1 oc2 kV2 dc2 pm2 cd2 ct2 oc3 kV3 dc3 pm3 cd3 ct3 oc4 kV4 dc4 pm4 cd4 ct4 oc5 kV5 dc5 pm5 cd5 ct5 oc6 dc6 pm6 cd6 ct6 oc7 dc7 pm7 cd7 ct7 oc8 dc8 pm8 cd8 ct8 oc9 kV9 dc9 pm9 cd9 ct9 oc10 kV10 dc10 pm10 cd10 ct10 oc11 kV11 dc11 pm11 cd11 ct11 oc12 kV12 dc12 pm12 cd12 ct12 oc13 kV13 dc13 pm13 cd13 ct13 oc14 kV14 dc14 pm14 cd14 ct14 : Value} {D6 : Addr} {D7 : Addr} {D8 : Addr}
    (a1 : PySem.W.nsIn K mainGlobals "_law_flow" = some (some (.ref f1))) (l1 : K.lookup f1 = some ⟨oc1, od1, .func (PySem.W.fnOf "_law_flow" "_law_flow" (defArgs s_law_flow) (defBody s_law_flow) (defScope s_law_flow) .none kV1 dc1 pm1 an1 cd1 ct1), sl1⟩) (c1 : PySem.W.codeIn K cd1 "_law_flow" = true) (k1 : PySem.W.keepIn K (.ref f1) = true)
    (a2 : PySem.W.nsIn K mainGlobals "_law_draw" = some (some (.ref f2))) (l2 : K.lookup f2 = some ⟨oc2, od2, .func (PySem.W.fnOf "_law_draw" "_law_draw" (defArgs s_law_draw) (defBody s_law_draw) (defScope s_law_draw) .none kV2 dc2 pm2 an2 cd2 ct2), sl2⟩) (c2 : PySem.W.codeIn K cd2 "_law_draw" = true) (k2 : PySem.W.keepIn K (.ref f2) = true)
    (a3 : PySem.W.nsIn K mainGlobals "_law_word" = some (some (.ref f3))) (l3 : K.lookup f3 = some ⟨oc3, od3, .func (PySem.W.fnOf "_law_word" "_law_word" (defArgs s_law_word) (defBody s_law_word) (defScope s_law_word) .none kV3 dc3 pm3 an3 cd3 ct3), sl3⟩) (c3 : PySem.W.codeIn K cd3 "_law_word" = true) (k3 : PySem.W.keepIn K (.ref f3) = true)
    (a4 : PySem.W.nsIn K mainGlobals "_law_mode" = some (some (.ref f4))) (l4 : K.lookup f4 = some ⟨oc4, od4, .func (PySem.W.fnOf "_law_mode" "_law_mode" (defArgs s_law_mode) (defBody s_law_mode) (defScope s_law_mode) .none kV4 dc4 pm4 an4 cd4 ct4), sl4⟩) (c4 : PySem.W.codeIn K cd4 "_law_mode" = true) (k4 : PySem.W.keepIn K (.ref f4) = true)
    (a5 : PySem.W.nsIn K mainGlobals "_law_side" = some (some (.ref f5))) (l5 : K.lookup f5 = some ⟨oc5, od5, .func (PySem.W.fnOf "_law_side" "_law_side" (defArgs s_law_side) (defBody s_law_side) (defScope s_law_side) .none kV5 dc5 pm5 an5 cd5 ct5), sl5⟩) (c5 : PySem.W.codeIn K cd5 "_law_side" = true) (k5 : PySem.W.keepIn K (.ref f5) = true)
    (a6 : PySem.W.nsIn K mainGlobals "marked" = some (some (.ref f6))) (l6 : K.lookup f6 = some ⟨oc6, od6, .func (PySem.W.fnOf "marked" "marked" (defArgs smarked) (defBody smarked) (defScope smarked) .none (.ref D6) dc6 pm6 an6 cd6 ct6), sl6⟩) (c6 : PySem.W.codeIn K cd6 "marked" = true) (k6 : PySem.W.keepIn K (.ref f6) = true)
    {td6level : Tok} (d6level : PySem.W.nsIn K D6 "level" = some (some (.int 1 td6level)))
    (a7 : PySem.W.nsIn K mainGlobals "asked" = some (some (.ref f7))) (l7 : K.lookup f7 = some ⟨oc7, od7, .func (PySem.W.fnOf "asked" "asked" (defArgs sasked) (defBody sasked) (defScope sasked) .none (.ref D7) dc7 pm7 an7 cd7 ct7), sl7⟩) (c7 : PySem.W.codeIn K cd7 "asked" = true) (k7 : PySem.W.keepIn K (.ref f7) = true)
    {td7level : Tok} (d7level : PySem.W.nsIn K D7 "level" = some (some (.int 1 td7level)))
    (a8 : PySem.W.nsIn K mainGlobals "stepped" = some (some (.ref f8))) (l8 : K.lookup f8 = some ⟨oc8, od8, .func (PySem.W.fnOf "stepped" "stepped" (defArgs sstepped) (defBody sstepped) (defScope sstepped) .none (.ref D8) dc8 pm8 an8 cd8 ct8), sl8⟩) (c8 : PySem.W.codeIn K cd8 "stepped" = true) (k8 : PySem.W.keepIn K (.ref f8) = true)
    {td8level : Tok} (d8level : PySem.W.nsIn K D8 "level" = some (some (.int 1 td8level)))
    (a9 : PySem.W.nsIn K mainGlobals "has_only" = some (some (.ref f9))) (l9 : K.lookup f9 = some ⟨oc9, od9, .func (PySem.W.fnOf "has_only" "has_only" (defArgs shas_only) (defBody shas_only) (defScope shas_only) .none kV9 dc9 pm9 an9 cd9 ct9), sl9⟩) (c9 : PySem.W.codeIn K cd9 "has_only" = true) (k9 : PySem.W.keepIn K (.ref f9) = true)
    (a10 : PySem.W.nsIn K mainGlobals "is_word" = some (some (.ref f10))) (l10 : K.lookup f10 = some ⟨oc10, od10, .func (PySem.W.fnOf "is_word" "is_word" (defArgs sis_word) (defBody sis_word) (defScope sis_word) .none kV10 dc10 pm10 an10 cd10 ct10), sl10⟩) (c10 : PySem.W.codeIn K cd10 "is_word" = true) (k10 : PySem.W.keepIn K (.ref f10) = true)
    (a11 : PySem.W.nsIn K mainGlobals "is_number" = some (some (.ref f11))) (l11 : K.lookup f11 = some ⟨oc11, od11, .func (PySem.W.fnOf "is_number" "is_number" (defArgs sis_number) (defBody sis_number) (defScope sis_number) .none kV11 dc11 pm11 an11 cd11 ct11), sl11⟩) (c11 : PySem.W.codeIn K cd11 "is_number" = true) (k11 : PySem.W.keepIn K (.ref f11) = true)
    (a12 : PySem.W.nsIn K mainGlobals "is_mark" = some (some (.ref f12))) (l12 : K.lookup f12 = some ⟨oc12, od12, .func (PySem.W.fnOf "is_mark" "is_mark" (defArgs sis_mark) (defBody sis_mark) (defScope sis_mark) .none kV12 dc12 pm12 an12 cd12 ct12), sl12⟩) (c12 : PySem.W.codeIn K cd12 "is_mark" = true) (k12 : PySem.W.keepIn K (.ref f12) = true)
    (a13 : PySem.W.nsIn K mainGlobals "is_name" = some (some (.ref f13))) (l13 : K.lookup f13 = some ⟨oc13, od13, .func (PySem.W.fnOf "is_name" "is_name" (defArgs sis_name) (defBody sis_name) (defScope sis_name) .none kV13 dc13 pm13 an13 cd13 ct13), sl13⟩) (c13 : PySem.W.codeIn K cd13 "is_name" = true) (k13 : PySem.W.keepIn K (.ref f13) = true)
    (a14 : PySem.W.nsIn K mainGlobals "law" = some (some (.ref f14))) (l14 : K.lookup f14 = some ⟨oc14, od14, .func (PySem.W.fnOf "law" "law" (defArgs slaw) (defBody slaw) (defScope slaw) .none kV14 dc14 pm14 an14 cd14 ct14), sl14⟩) (c14 : PySem.W.codeIn K cd14 "law" = true) (k14 : PySem.W.keepIn K (.ref f14) = true)
    {ty0 : Tok} (y0 : PySem.W.nsIn K mainGlobals "DIGITS" = some (some (.str ("0123456789" : Str) ty0)))
    {ty1 : Tok} (y1 : PySem.W.nsIn K mainGlobals "SMALL" = some (some (.str ("abcdefghijklmnopqrstuvwxyz" : Str) ty1)))
    (z0 : PySem.W.nsIn K mainGlobals "abs" = some none)
    (z1 : PySem.W.nsIn K mainGlobals "all" = some none)
    (z2 : PySem.W.nsIn K mainGlobals "int" = some none)
    (z3 : PySem.W.nsIn K mainGlobals "isinstance" = some none)
    (z4 : PySem.W.nsIn K mainGlobals "len" = some none)
    (z5 : PySem.W.nsIn K mainGlobals "max" = some none)
    (z6 : PySem.W.nsIn K mainGlobals "range" = some none)
    (z7 : PySem.W.nsIn K mainGlobals "str" = some none)
    : ∃ fd : FuncData, (∀ (s : Shared) (v : Value), BindsTo s fd ⟨[v], []⟩ [("_law_script", v)]) ∧ ∀ base : Heap, K.In base → base.Ns mainGlobals mg → FnOk l.prog w K mg base (L2.CX l.prog w) 5 fa fd Plaw (spF (tab K) Flaw.sem) := by
  have e := hfa.symm.trans (PySem.W.mg_of X G a14)
  cases e
  have hb : ∀ x ∈ bls, mg x = none := mem_cons_of (PySem.W.mg_none_of X G z0) (mem_cons_of (PySem.W.mg_none_of X G z1) (mem_cons_of (PySem.W.mg_none_of X G z2) (mem_cons_of (PySem.W.mg_none_of X G z3) (mem_cons_of (PySem.W.mg_none_of X G z4) (mem_cons_of (PySem.W.mg_none_of X G z5) (mem_cons_of (PySem.W.mg_none_of X G z6) (mem_cons_of (PySem.W.mg_none_of X G z7) (mem_nil_of))))))))
  have hgl : ∀ p ∈ gls, ∃ u v, mg p.1 = some u ∧ RelV v u ∧ ∀ S, Rep (tab K) S v p.2 := mem_cons_of ⟨_, .str ("0123456789" : Str), PySem.W.mg_of X G y0, ⟨_, rfl⟩, fun S => rep_lit (by decide +kernel)⟩ (mem_cons_of ⟨_, .str ("abcdefghijklmnopqrstuvwxyz" : Str), PySem.W.mg_of X G y1, ⟨_, rfl⟩, fun S => rep_lit (by decide +kernel)⟩ (mem_nil_of))
  have F1 := fun_mk (st := s_law_flow) l1 c1 k1
  have b1 := F1.binds (ps := P_law_flow) fun _ _ _ _ _ _ us hl => match us, hl with | [_], _ => rfl
  have F2 := fun_mk (st := s_law_draw) l2 c2 k2
  have b2 := F2.binds (ps := P_law_draw) fun _ _ _ _ _ _ us hl => match us, hl with | [_, _], _ => rfl
  have F3 := fun_mk (st := s_law_word) l3 c3 k3
  have b3 := F3.binds (ps := P_law_word) fun _ _ _ _ _ _ us hl => match us, hl with | [_], _ => rfl
  have F4 := fun_mk (st := s_law_mode) l4 c4 k4
  have b4 := F4.binds (ps := P_law_mode) fun _ _ _ _ _ _ us hl => match us, hl with | [_], _ => rfl
  have F5 := fun_mk (st := s_law_side) l5 c5 k5
  have b5 := F5.binds (ps := P_law_side) fun _ _ _ _ _ _ us hl => match us, hl with | [_], _ => rfl
  have F6 := fun_mk (st := smarked) l6 c6 k6
  have F7 := fun_mk (st := sasked) l7 c7 k7
  have F8 := fun_mk (st := sstepped) l8 c8 k8
  have F9 := fun_mk (st := shas_only) l9 c9 k9
  have b9 := F9.binds (ps := Phas_only) fun _ _ _ _ _ _ us hl => match us, hl with | [_, _], _ => rfl
  have F10 := fun_mk (st := sis_word) l10 c10 k10
  have b10 := F10.binds (ps := Pis_word) fun _ _ _ _ _ _ us hl => match us, hl with | [_], _ => rfl
  have F11 := fun_mk (st := sis_number) l11 c11 k11
  have b11 := F11.binds (ps := Pis_number) fun _ _ _ _ _ _ us hl => match us, hl with | [_, _], _ => rfl
  have F12 := fun_mk (st := sis_mark) l12 c12 k12
  have b12 := F12.binds (ps := Pis_mark) fun _ _ _ _ _ _ us hl => match us, hl with | [_], _ => rfl
  have F13 := fun_mk (st := sis_name) l13 c13 k13
  have b13 := F13.binds (ps := Pis_name) fun _ _ _ _ _ _ us hl => match us, hl with | [_], _ => rfl
  have F14 := fun_mk (st := slaw) l14 c14 k14
  refine ⟨PySem.W.fnOf "law" "law" (defArgs slaw) (defBody slaw) (defScope slaw) .none kV14 dc14 pm14 an14 cd14 ct14, fun s v => .of_eq rfl, fun base kb nb => ?_⟩
  have e1 : FnOk l.prog w K mg base (L2.CX l.prog w) 1 f1 _ P_law_flow (spF (tab K) F_law_flow.sem) := def_ok (C := ⟨N_law_flow, bls, nms, gls, fun i => kwl.getD i []⟩) F1 sc_law_flow rfl rfl hb hgl (by decide +kernel) (
    mem_nil_of) ck_law_flow
  have g1 := fn_raw e1 b1
  have e2 : FnOk l.prog w K mg base (L2.CX l.prog w) 1 f2 _ P_law_draw (spF (tab K) F_law_draw.sem) := def_ok (C := ⟨N_law_draw, bls, nms, gls, fun i => kwl.getD i []⟩) F2 sc_law_draw rfl rfl hb hgl (by decide +kernel) (
    mem_nil_of) ck_law_draw
  have g2 := fn_raw e2 b2
  have e3 : FnOk l.prog w K mg base (L2.CX l.prog w) 2 f3 _ P_law_word (spF (tab K) F_law_word.sem) := def_ok (C := ⟨N_law_word, bls, nms, gls, fun i => kwl.getD i []⟩) F3 sc_law_word rfl rfl hb hgl (by decide +kernel) (
    mem_cons_of ⟨_, _, _, rfl, fnv_raw g2, by decide, PySem.W.mg_of X G a2, k2, by decide +kernel⟩ (mem_cons_of ⟨_, _, _, rfl, fnv_raw g2, by decide, PySem.W.mg_of X G a2, k2, by decide +kernel⟩ (mem_cons_of ⟨_, _, _, rfl, fnv_raw g2, by decide, PySem.W.mg_of X G a2, k2, by decide +kernel⟩ (mem_cons_of ⟨_, _, _, rfl, fnv_raw g2, by decide, PySem.W.mg_of X G a2, k2, by decide +kernel⟩ (mem_cons_of ⟨_, _, _, rfl, fnv_raw g2, by decide, PySem.W.mg_of X G a2, k2, by decide +kernel⟩ (mem_cons_of ⟨_, _, _, rfl, fnv_raw g2, by decide, PySem.W.mg_of X G a2, k2, by decide +kernel⟩ (mem_nil_of))))))) ck_law_word
  have g3 := fn_raw e3 b3
  have e4 : FnOk l.prog w K mg base (L2.CX l.prog w) 2 f4 _ P_law_mode (spF (tab K) F_law_mode.sem) := def_ok (C := ⟨N_law_mode, bls, nms, gls, fun i => kwl.getD i []⟩) F4 sc_law_mode rfl rfl hb hgl (by decide +kernel) (
    mem_cons_of ⟨_, _, _, rfl, fnv_raw g2, by decide, PySem.W.mg_of X G a2, k2, by decide +kernel⟩ (mem_cons_of ⟨_, _, _, rfl, fnv_raw g2, by decide, PySem.W.mg_of X G a2, k2, by decide +kernel⟩ (mem_nil_of))) ck_law_mode
  have g4 := fn_raw e4 b4
  have e5 : FnOk l.prog w K mg base (L2.CX l.prog w) 1 f5 _ P_law_side (spF (tab K) F_law_side.sem) := def_ok (C := ⟨N_law_side, bls, nms, gls, fun i => kwl.getD i []⟩) F5 sc_law_side rfl rfl hb hgl (by decide +kernel) (
    mem_nil_of) ck_law_side
  have g5 := fn_raw e5 b5
  have e6 : FnOk l.prog w K mg base (L2.CX l.prog w) 1 f6 _ Pmarked (spF (tab K) Fmarked.sem) := def_ok (C := ⟨Nmarked, bls, nms, gls, fun i => kwl.getD i []⟩) F6 scmarked rfl rfl hb hgl (by decide +kernel) (
    mem_nil_of) ckmarked
  have gmarked_k_level := fnv_kw (ks := ["level"]) e6 (fun s us1 us2 Y h1 h2 => match us1, us2, h1, h2 with | [_, _], [_], _, _ => .of_eq rfl)
  have gmarked_d1 := fnv_gen (ks := []) (ds := [.int 1 td6level]) (dvs := [.int 1]) (dd := [.int 1]) e6 (fun s us1 us2 Y h1 h2 => match us1, us2, h1, h2 with | [_, _], [], _, _ => L2.BindsTo.of_looks fun M => KwChain.looks (l := [("level", .int 1 td6level)]) Y (mem_cons_of d6level (mem_nil_of)) ⟨_, _, _, _, _, _, rfl, rfl, rfl⟩) (.cons (⟨_, rfl⟩) (.nil)) (fun S => .cons (.int _) (.nil))
  have e7 : FnOk l.prog w K mg base (L2.CX l.prog w) 2 f7 _ Pasked (spF (tab K) Fasked.sem) := def_ok (C := ⟨Nasked, bls, nms, gls, fun i => kwl.getD i []⟩) F7 scasked rfl rfl hb hgl (by decide +kernel) (
    mem_cons_of ⟨_, _, _, rfl, gmarked_k_level, by decide, PySem.W.mg_of X G a6, k6, by decide +kernel⟩ (mem_nil_of)) ckasked
  have gasked_k_level := fnv_kw (ks := ["level"]) e7 (fun s us1 us2 Y h1 h2 => match us1, us2, h1, h2 with | [_, _], [_], _, _ => .of_eq rfl)
  have gasked_d1 := fnv_gen (ks := []) (ds := [.int 1 td7level]) (dvs := [.int 1]) (dd := [.int 1]) e7 (fun s us1 us2 Y h1 h2 => match us1, us2, h1, h2 with | [_, _], [], _, _ => L2.BindsTo.of_looks fun M => KwChain.looks (l := [("level", .int 1 td7level)]) Y (mem_cons_of d7level (mem_nil_of)) ⟨_, _, _, _, _, _, rfl, rfl, rfl⟩) (.cons (⟨_, rfl⟩) (.nil)) (fun S => .cons (.int _) (.nil))
  have e8 : FnOk l.prog w K mg base (L2.CX l.prog w) 2 f8 _ Pstepped (spF (tab K) Fstepped.sem) := def_ok (C := ⟨Nstepped, bls, nms, gls, fun i => kwl.getD i []⟩) F8 scstepped rfl rfl hb hgl (by decide +kernel) (
    mem_cons_of ⟨_, _, _, rfl, gmarked_k_level, by decide, PySem.W.mg_of X G a6, k6, by decide +kernel⟩ (mem_nil_of)) ckstepped
  have gstepped_k_level := fnv_kw (ks := ["level"]) e8 (fun s us1 us2 Y h1 h2 => match us1, us2, h1, h2 with | [_, _, _, _], [_], _, _ => .of_eq rfl)
  have gstepped_d1 := fnv_gen (ks := []) (ds := [.int 1 td8level]) (dvs := [.int 1]) (dd := [.int 1]) e8 (fun s us1 us2 Y h1 h2 => match us1, us2, h1, h2 with | [_, _, _, _], [], _, _ => L2.BindsTo.of_looks fun M => KwChain.looks (l := [("level", .int 1 td8level)]) Y (mem_cons_of d8level (mem_nil_of)) ⟨_, _, _, _, _, _, rfl, rfl, rfl⟩) (.cons (⟨_, rfl⟩) (.nil)) (fun S => .cons (.int _) (.nil))
  have e9 : FnOk l.prog w K mg base (L2.CX l.prog w) 1 f9 _ Phas_only (spF (tab K) Fhas_only.sem) := def_ok (C := ⟨Nhas_only, bls, nms, gls, fun i => kwl.getD i []⟩) F9 schas_only rfl rfl hb hgl (by decide +kernel) (
    mem_nil_of) ckhas_only
  have g9 := fn_raw e9 b9
  have e10 : FnOk l.prog w K mg base (L2.CX l.prog w) 2 f10 _ Pis_word (spF (tab K) Fis_word.sem) := def_ok (C := ⟨Nis_word, bls, nms, gls, fun i => kwl.getD i []⟩) F10 scis_word rfl rfl hb hgl (by decide +kernel) (
    mem_cons_of ⟨_, _, _, rfl, fnv_raw g9, by decide, PySem.W.mg_of X G a9, k9, by decide +kernel⟩ (mem_nil_of)) ckis_word
  have g10 := fn_raw e10 b10
  have e11 : FnOk l.prog w K mg base (L2.CX l.prog w) 2 f11 _ Pis_number (spF (tab K) Fis_number.sem) := def_ok (C := ⟨Nis_number, bls, nms, gls, fun i => kwl.getD i []⟩) F11 scis_number rfl rfl hb hgl (by decide +kernel) (
    mem_cons_of ⟨_, _, _, rfl, fnv_raw g9, by decide, PySem.W.mg_of X G a9, k9, by decide +kernel⟩ (mem_nil_of)) ckis_number
  have g11 := fn_raw e11 b11
  have e12 : FnOk l.prog w K mg base (L2.CX l.prog w) 3 f12 _ Pis_mark (spF (tab K) Fis_mark.sem) := def_ok (C := ⟨Nis_mark, bls, nms, gls, fun i => kwl.getD i []⟩) F12 scis_mark rfl rfl hb hgl (by decide +kernel) (
    mem_cons_of ⟨_, _, _, rfl, fnv_raw g11, by decide, PySem.W.mg_of X G a11, k11, by decide +kernel⟩ (mem_cons_of ⟨_, _, _, rfl, fnv_raw g11, by decide, PySem.W.mg_of X G a11, k11, by decide +kernel⟩ (mem_nil_of))) ckis_mark
  have g12 := fn_raw e12 b12
  have e13 : FnOk l.prog w K mg base (L2.CX l.prog w) 4 f13 _ Pis_name (spF (tab K) Fis_name.sem) := def_ok (C := ⟨Nis_name, bls, nms, gls, fun i => kwl.getD i []⟩) F13 scis_name rfl rfl hb hgl (by decide +kernel) (
    mem_cons_of ⟨_, _, _, rfl, fnv_raw g10, by decide, PySem.W.mg_of X G a10, k10, by decide +kernel⟩ (mem_cons_of ⟨_, _, _, rfl, fnv_raw g12, by decide, PySem.W.mg_of X G a12, k12, by decide +kernel⟩ (mem_nil_of))) ckis_name
  have g13 := fn_raw e13 b13
  have e14 : FnOk l.prog w K mg base (L2.CX l.prog w) 5 fa _ Plaw (spF (tab K) Flaw.sem) := def_ok (C := ⟨Nlaw, bls, nms, gls, fun i => kwl.getD i []⟩) F14 sclaw rfl rfl hb hgl (by decide +kernel) (
    mem_cons_of ⟨_, _, _, rfl, fnv_raw g1, by decide, PySem.W.mg_of X G a1, k1, by decide +kernel⟩ (mem_cons_of ⟨_, _, _, rfl, fnv_raw g3, by decide, PySem.W.mg_of X G a3, k3, by decide +kernel⟩ (mem_cons_of ⟨_, _, _, rfl, fnv_raw g3, by decide, PySem.W.mg_of X G a3, k3, by decide +kernel⟩ (mem_cons_of ⟨_, _, _, rfl, fnv_raw g4, by decide, PySem.W.mg_of X G a4, k4, by decide +kernel⟩ (mem_cons_of ⟨_, _, _, rfl, fnv_raw g4, by decide, PySem.W.mg_of X G a4, k4, by decide +kernel⟩ (mem_cons_of ⟨_, _, _, rfl, fnv_raw g2, by decide, PySem.W.mg_of X G a2, k2, by decide +kernel⟩ (mem_cons_of ⟨_, _, _, rfl, fnv_raw g2, by decide, PySem.W.mg_of X G a2, k2, by decide +kernel⟩ (mem_cons_of ⟨_, _, _, rfl, fnv_raw g5, by decide, PySem.W.mg_of X G a5, k5, by decide +kernel⟩ (mem_cons_of ⟨_, _, _, rfl, fnv_raw g5, by decide, PySem.W.mg_of X G a5, k5, by decide +kernel⟩ (mem_cons_of ⟨_, _, _, rfl, gmarked_k_level, by decide, PySem.W.mg_of X G a6, k6, by decide +kernel⟩ (mem_cons_of ⟨_, _, _, rfl, gasked_k_level, by decide, PySem.W.mg_of X G a7, k7, by decide +kernel⟩ (mem_cons_of ⟨_, _, _, rfl, gstepped_k_level, by decide, PySem.W.mg_of X G a8, k8, by decide +kernel⟩ (mem_cons_of ⟨_, _, _, rfl, gmarked_d1, by decide, PySem.W.mg_of X G a6, k6, by decide +kernel⟩ (mem_cons_of ⟨_, _, _, rfl, gasked_d1, by decide, PySem.W.mg_of X G a7, k7, by decide +kernel⟩ (mem_cons_of ⟨_, _, _, rfl, gstepped_d1, by decide, PySem.W.mg_of X G a8, k8, by decide +kernel⟩ (mem_cons_of ⟨_, _, _, rfl, fnv_raw g13, by decide, PySem.W.mg_of X G a13, k13, by decide +kernel⟩ (mem_nil_of))))))))))))))))) cklaw
  exact e14
theorem walk {l : PySem.W.OpenLaw} {q : Program} {loose : List Str} {XP : (Str → Option Value) → Heap → Prop} {YP : World → Heap → Prop} {d : DefRec} {K : Params → PySem.W.Frag} (hn : l.most = some 63) (hdf : d.params.defaults = [])
    (hY : ∀ (w : World) (h : Heap), YP w h → (K w.params).In h) (hL : ∀ ns : List Int, ns.length ≤ 63 → ∃ outs, outs.length = 1 ∧ Flaw.sem [(.fz, .frl (ns.map D.int))] = .ok (.fz (.bl true)) outs)
    (F : ∀ (w : World) (mg : Str → Option Value) (fa : Addr) (h : Heap), (K w.params).In h → h.Ns mainGlobals mg → mg d.name = some (.ref fa) →
      ∃ fd : FuncData, (∀ (s : Shared) (u : Value), BindsTo s fd ⟨[u], []⟩ [("_law_script", u)]) ∧ ∀ base : Heap, (K w.params).In base → base.Ns mainGlobals mg → FnOk l.prog w (K w.params) mg base (L2.CX l.prog w) 5 fa fd Plaw (spF (tab (K w.params)) Flaw.sem)) :
    PySem.W.WalkO q loose XP YP l.row.toRowW d [] (fun f vs => PySem.call f vs) :=
  L2.walk_of (n := 63) (k := 5) (CX := fun w => L2.CX l.prog w) (sp := fun w => spF (tab (K w.params)) Flaw.sem) hn (by decide) hdf ⟨rfl, by decide, by decide⟩ hY F (fun w H a ns hl ho hS => end_sp ho hS (hL ns hl)) fun _ _ _ _ _ z => end_cx z
end Gk02
namespace Gk02
open PySem L2 Z
end Gk02

open PySem PySem.W PyProof.Rows in
set_option maxRecDepth 100000 in
set_option maxHeartbeats 0 in
theorem PySem.Challenge.cw_askedfacts_k02_new_names_holds : PySem.Challenge.rw_askedfacts_k02_new_names.Holds := by
  w_on; o_law; k_head; (case hw => w_witness2)
  k_fill
  refine Gk02.walk (l := PySem.Challenge.rw_askedfacts_k02_new_names) rfl rfl (fun w h Y => PySem.W.kIn_of Y) Gk02.law_true ?F
  case F =>
    intro w mg fa h KX G hmg
    refine' Gk02.all_mk KX G hmg ?a1 ?l1 ?c1 ?k1 ?a2 ?l2 ?c2 ?k2 ?a3 ?l3 ?c3 ?k3 ?a4 ?l4 ?c4 ?k4 ?a5 ?l5 ?c5 ?k5 ?a6 ?l6 ?c6 ?k6 ?d6level ?a7 ?l7 ?c7 ?k7 ?d7level ?a8 ?l8 ?c8 ?k8 ?d8level ?a9 ?l9 ?c9 ?k9 ?a10 ?l10 ?c10 ?k10 ?a11 ?l11 ?c11 ?k11 ?a12 ?l12 ?c12 ?k12 ?a13 ?l13 ?c13 ?k13 ?a14 ?l14 ?c14 ?k14 ?y0 ?y1 ?z0 ?z1 ?z2 ?z3 ?z4 ?z5 ?z6 ?z7
    (case a1 => k_is)
    (case l1 => k_is)
    (case c1 => k_is)
    (case k1 => k_is)
    (case a2 => k_is)
    (case l2 => k_is)
    (case c2 => k_is)
    (case k2 => k_is)
    (case a3 => k_is)
    (case l3 => k_is)
    (case c3 => k_is)
    (case k3 => k_is)
    (case a4 => k_is)
    (case l4 => k_is)
    (case c4 => k_is)
    (case k4 => k_is)
    (case a5 => k_is)
    (case l5 => k_is)
    (case c5 => k_is)
    (case k5 => k_is)
    (case a6 => k_is)
    (case l6 => k_is)
    (case c6 => k_is)
    (case k6 => k_is)
    (case d6level => k_is)
    (case a7 => k_is)
    (case l7 => k_is)
    (case c7 => k_is)
    (case k7 => k_is)
    (case d7level => k_is)
    (case a8 => k_is)
    (case l8 => k_is)
    (case c8 => k_is)
    (case k8 => k_is)
    (case d8level => k_is)
    (case a9 => k_is)
    (case l9 => k_is)
    (case c9 => k_is)
    (case k9 => k_is)
    (case a10 => k_is)
    (case l10 => k_is)
    (case c10 => k_is)
    (case k10 => k_is)
    (case a11 => k_is)
    (case l11 => k_is)
    (case c11 => k_is)
    (case k11 => k_is)
    (case a12 => k_is)
    (case l12 => k_is)
    (case c12 => k_is)
    (case k12 => k_is)
    (case a13 => k_is)
    (case l13 => k_is)
    (case c13 => k_is)
    (case k13 => k_is)
    (case a14 => k_is)
    (case l14 => k_is)
    (case c14 => k_is)
    (case k14 => k_is)
    (case y0 => k_is)
    (case y1 => k_is)
    (case z0 => k_is)
    (case z1 => k_is)
    (case z2 => k_is)
    (case z3 => k_is)
    (case z4 => k_is)
    (case z5 => k_is)
    (case z6 => k_is)
    (case z7 => k_is)
