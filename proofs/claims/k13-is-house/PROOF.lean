import PyProof.Rows.All
import Wide.All
import OpenK.AllK
import Wide.FinOn
import HandS.ForMost
import HandS.Exc
import HandS.ExcOwn
import HandS.CallSlots
import HandS.Defaults
import HandS.Wide
import HandS.IsInst
import HandS.Deep
import HandS.TupAny
import HandS.TryOnly
import HandS.Style
import HandS.Flow
import HandS.Strs
import HandS.Zip
import HandS.More
import HandS.TupSets
import HandS.SortOrd
import HandS.HeadHook1
import HandS.HeadHook2
import HandS.HeadHook3
import HandS.HeadHook4
import HandS.HeadEnd
import KE.KStateDown
import HandS.Head0
import HandS.Head1
import HandS.Head2
import PySem.Challenge.RW_stairrooms_k13_is_house
set_option Elab.async false
set_option linter.all false
set_option maxRecDepth 100000
/-! Sr0: the clean layer. Values, heaps, the small syntax, its wp. -/
namespace Sr
open PySem L2

/-- a value: tuples are values, lists, dicts and objects stand at addresses -/
inductive D where
  | non | bl (b : Bool) | int (i : Int) | str (x : Str) | tup (xs : List D) | ref (a : Addr)
  deriving Inhabited

/-- what stands at an address; lck: read, not written while it is so -/
inductive MO where
  | lst (xs : List D) | dic (kvs : List (D × D)) | obj (c : Nat) (fs : List (Str × D)) | lck (o : MO)
  deriving Inhabited

abbrev Hc := Addr → Option MO
abbrev Sg := List (Option D)
def hset (h : Hc) (a : Addr) (o : MO) : Hc := fun b => if b = a then some o else h b
theorem hset_same {h : Hc} {a : Addr} {o : MO} : hset h a o a = some o := by unfold hset; rw [if_pos rfl]
theorem hset_ne {h : Hc} {a b : Addr} {o : MO} (e : b ≠ a) : hset h a o b = h b := by unfold hset; rw [if_neg e]
theorem hset_hset {h : Hc} {a : Addr} {o u : MO} : hset (hset h a o) a u = hset h a u := by
  funext b; unfold hset; split <;> rfl
/-- all that the one knows the other knows -/
def Sub (h h' : Hc) : Prop := ∀ a o, h a = some o → h' a = some o
theorem Sub.refl (h : Hc) : Sub h h := fun _ _ e => e
theorem Sub.trans {h h1 h2 : Hc} (a : Sub h h1) (b : Sub h1 h2) : Sub h h2 := fun x o e => b x o (a x o e)
theorem Sub.new {h : Hc} {p : Addr} {o : MO} (e : h p = none) : Sub h (hset h p o) := fun a u q => by
  by_cases z : a = p
  · rw [z, e] at q; cases q
  · rw [hset_ne z]; exact q

/-- a list that is to be read -/
def RdL (h : Hc) (a : Addr) (xs : List D) : Prop := h a = some (.lst xs) ∨ h a = some (.lck (.lst xs))
def RdD (h : Hc) (a : Addr) (xs : List (D × D)) : Prop := h a = some (.dic xs) ∨ h a = some (.lck (.dic xs))

/-- an exception: its class, its one field (NoWalk's at) -/
structure Exn where
  c : Nat
  p : Option D
abbrev Qv := D → Hc → Prop
abbrev Qx := Exn → Hc → Prop
abbrev Fn := List D → Hc → Qv → Qx → Prop

/-! ### syntax -/
inductive Bin where
  | add | sub | mul | fdiv | mod | pow
  deriving DecidableEq
inductive Cm where
  | eq | ne | lt | le | gt | ge | isin | notin | is | isnot
  deriving DecidableEq
/-- built-in functions of values -/
inductive Bi where
  | len | list | tuple | max | min | int | str | abs | divmod | sorted | all | any | lenset | sortset
  deriving DecidableEq
/-- built-in methods -/
inductive Mt where
  | append | pop | clear | reverse | index | count | join | split | partition | get | find | rfind | replace
  deriving DecidableEq
inductive Ty where
  | int | bool | str | tuple | list
  deriving DecidableEq

mutual
inductive E where
  | var (i : Nat)
  | con (d : D)
  | tup (es : Es) | lst (es : Es) | dic (ks vs : Es)
  | bin (o : Bin) (a b : E) | neg (a : E)
  | cmp (o : Cm) (a b : E) | chain (o o' : Cm) (a b c : E)
  | and (a b : E) | or (a b : E) | not (a : E) | ife (c a b : E)
  | ix (a i : E) | sl (a : E) (lo hi : Es) | rev (a : E)
  | gget (t : List (D × D)) (i : E) | gin (i : E) (t : List (D × D))
  | call (f : Nat) (es : Es) | new (c : Nat)
  | bi (b : Bi) (es : Es) | mt (m : Mt) (o : E) (es : Es) | um (f : Nat) (o : E) (es : Es)
  | fld (o : E) (f : Str)
  | isi (e : E) (ts : List Ty)
  | exis (cs : List Nat) | exat
  | lc (elt : E) (tg : Tg) (it : It) (cond : Es) (own : List Nat)
  | fst (es : Es)
inductive Es where
  | nil | cons (e : E) (es : Es)
inductive Tg where
  | nm (i : Nat) | tup (ts : Tgs) | ix (o i : E) | fld (o : E) (f : Str)
inductive Tgs where
  | nil | cons (t : Tg) (ts : Tgs)
inductive It where
  | of (e : E) | rng (es : Es) | enum (e : E) | zip (es : Es)
end

mutual
inductive S where
  | ex (e : E) | asg (t : Tg) (e : E) | par (i j : Nat) (a b : E) | aug (i : Nat) (o : Bin) (e : E) | augix (a i : E) (o : Bin) (e : E)
  | ifs (c : E) (a b : Ss) | whil (c : E) (b : Ss) | forr (t : Tg) (it : It) (b : Ss)
  | ret (e : E) | retN | raise (c : Nat) (es : Es) | tri (b : Ss) (c : Nat) (i : Nat) (s : Ss)
inductive Ss where
  | nil | cons (s : S) (ss : Ss)
end
mutual
def Tg.slots : Tg → List Nat
  | .nm i => [i]
  | .tup ts => ts.slots
  | .ix _ _ => []
  | .fld _ _ => []
def Tgs.slots : Tgs → List Nat
  | .nil => []
  | .cons t ts => t.slots ++ ts.slots
end
def Tgs.len : Tgs → Nat
  | .nil => 0
  | .cons _ ts => ts.len + 1
def Es.len : Es → Nat
  | .nil => 0
  | .cons _ es => es.len + 1
structure FDef where
  np : Nat
  nn : Nat
  body : Ss
end Sr

set_option Elab.async false
set_option linter.all false
set_option maxRecDepth 100000
set_option autoImplicit false
/-! Sr1: the wp of the small syntax. -/
namespace Sr
open PySem L2

/-! ### values -/
def D.isN : D → Bool
  | .non => true
  | _ => false
mutual
/-- what == sees -/
inductive PdOf (h : Hc) : D → PyData → Prop
  | non : PdOf h .non .none
  | bl (b : Bool) : PdOf h (.bl b) (.bool b)
  | int (i : Int) : PdOf h (.int i) (.int i)
  | str (x : Str) : PdOf h (.str x) (.str x)
  | tup {ds : List D} {ps : List PyData} : PdsOf h ds ps → PdOf h (.tup ds) (.tuple ps)
  | lst {a : Addr} {ds : List D} {ps : List PyData} : RdL h a ds → PdsOf h ds ps → PdOf h (.ref a) (.list ps)
inductive PdsOf (h : Hc) : List D → List PyData → Prop
  | nil : PdsOf h [] []
  | cons {d : D} {ds : List D} {p : PyData} {ps : List PyData} : PdOf h d p → PdsOf h ds ps → PdsOf h (d :: ds) (p :: ps)
end
def flatD : D → Bool
  | .non => true | .bl _ => true | .int _ => true | .str _ => true | _ => false
def eqF : D → D → Bool
  | .non, .non => true
  | .bl a, .bl b => a == b
  | .bl a, .int b => (if a then 1 else 0) == b
  | .int a, .bl b => a == (if b then 1 else 0)
  | .int a, .int b => a == b
  | .str a, .str b => a == b
  | _, _ => false
def inF (x : D) (xs : List D) : Bool := xs.any fun y => eqF y x
/-- keys: ints and texts, or tuples of them -/
def keyD : Key → D
  | .inl i => .int i
  | .inr x => .str x
def keyOf : D → Option Key
  | .int i => some (.inl i)
  | .str x => some (.inr x)
  | _ => none
def keysOf : List D → Option (List Key)
  | [] => some []
  | d :: r => match keyOf d, keysOf r with
    | some k, some ks => some (k :: ks)
    | _, _ => none
/-- a key of either kind -/
inductive KK where
  | one (k : Key) | tup (ks : List Key)
  deriving DecidableEq
def kkOf : D → Option KK
  | .tup xs => (keysOf xs).map .tup
  | d => (keyOf d).map .one
def kkD : KK → D
  | .one k => keyD k
  | .tup ks => .tup (ks.map keyD)
/-- a tuple of ints and texts -/
def keyT (ks : List Key) : D := .tup (ks.map keyD)
def isI : Key → Bool
  | .inl _ => true
  | .inr _ => false
def ltK : Key → Key → Bool
  | .inl i, .inl j => decide (i < j)
  | .inr x, .inr y => decide (x.cps.toList < y.cps.toList)
  | .inl _, .inr _ => true
  | .inr _, .inl _ => false
/-- the tuples' order -/
def lexK : List Key → List Key → Bool
  | [], [] => false
  | [], _ :: _ => true
  | _ :: _, [] => false
  | a :: r, b :: t => if a = b then lexK r t else ltK a b
/-- the value at a key -/
def dval (kvs : List (D × D)) (k : KK) : Option D := (kvs.find? fun p => decide (kkOf p.1 = some k)).map (·.2)
def dput (kvs : List (D × D)) (k : KK) (v : D) : List (D × D) :=
  if (kvs.any fun p => decide (kkOf p.1 = some k)) = true then kvs.map (fun p => if kkOf p.1 = some k then (p.1, v) else p) else kvs ++ [(kkD k, v)]
/-- the keys are of the kind of k -/
def kindB (kvs : List (D × D)) (k : KK) : Bool := kvs.all fun p => match k, p.1 with
  | .one _, .tup _ => false
  | .one _, _ => true
  | .tup _, .tup _ => true
  | .tup _, _ => false
/-- a dict that may be asked for k -/
def DAt (h : Hc) (a : Addr) (kvs : List (D × D)) (k : KK) : Prop := (h a = some (.dic kvs) ∨ (h a = some (.lck (.dic kvs)) ∧ kvs ≠ [])) ∧ kindB kvs k = true
/-- a value's truth -/
def Tru (h : Hc) : D → Bool → Prop
  | .non, k => k = false
  | .bl b, k => k = b
  | .int i, k => k = (i != 0)
  | .str x, k => x.length ≤ sizeLine ∧ k = ((x.length : Int) != 0)
  | .tup xs, k => k = !xs.isEmpty
  | .ref a, k => ∃ xs, RdL h a xs ∧ k = !xs.isEmpty
def cutD (xs : List D) (lo hi : Option Int) : List D := (xs.drop (HT.sIx xs.length 0 lo)).take (HT.sIx xs.length xs.length hi - HT.sIx xs.length 0 lo)
/-- what may be forgotten is forgotten -/
def Fg (Q : Qv) : Qv := fun d h => ∃ h', Sub h' h ∧ Q d h'
theorem Fg.here {Q : Qv} {d : D} {h : Hc} (q : Q d h) : Fg Q d h := ⟨h, Sub.refl h, q⟩

/-! ### operations -/
def wpBin (o : Bin) (x y : D) (h : Hc) (Q : Qv) : Prop := match o, x, y with
  | .add, .int i, .int j => Q (.int (i + j)) h
  | .add, .str s, .str t => s.length + t.length ≤ sizeLine ∧ Q (.str (s ++ t)) h
  | .add, .tup xs, .tup ys => xs.length + ys.length ≤ sizeLine ∧ Q (.tup (xs ++ ys)) h
  | .add, .ref a, .ref b => ∃ xs ys, h a = some (.lst xs) ∧ h b = some (.lst ys) ∧ xs.length + ys.length ≤ sizeLine ∧ ∀ p, h p = none → Q (.ref p) (hset h p (.lst (xs ++ ys)))
  | .sub, .int i, .int j => Q (.int (i - j)) h
  | .mul, .int i, .int j => CMul i j ∧ Q (.int (i * j)) h
  | .mul, .ref a, .int k => ∃ xs, h a = some (.lst xs) ∧ -(2 ^ 63) ≤ k ∧ k < 2 ^ 63 ∧ xs.length * k.toNat ≤ sizeLine ∧ ∀ p, h p = none → Q (.ref p) (hset h p (.lst (List.replicate k.toNat xs).flatten))
  | .fdiv, .int i, .int j => (0 < j ∧ j < 1073741824) ∧ Q (.int (i / j)) h
  | .mod, .int i, .int j => 0 < j ∧ Q (.int (i % j)) h
  | .pow, .int i, .int j => (0 ≤ j ∧ j ≤ 1000000 ∧ i.natAbs < 2 ^ 64) ∧ Q (.int (i ^ j.toNat)) h
  | _, _, _ => False
/-- x op= y, of whole numbers -/
def wpAug (o : Bin) (x y : D) (h : Hc) (Q : Qv) : Prop := match o, x, y with
  | .add, .int i, .int j => Q (.int (i + j)) h
  | .sub, .int i, .int j => Q (.int (i - j)) h
  | _, _, _ => False
/-- x in y -/
def InD (h : Hc) (x y : D) (b : Bool) : Prop := match y with
  | .tup ys => flatD x = true ∧ ys.all flatD = true ∧ b = inF x ys
  | .str z => ∃ c, x = .str ⟨#[c]⟩ ∧ b = decide (c ∈ z.cps.toList)
  | .ref a => (∃ ys, RdL h a ys ∧ flatD x = true ∧ ys.all flatD = true ∧ b = inF x ys) ∨
      (∃ ys p ps, RdL h a ys ∧ PdOf h x p ∧ PdsOf h ys ps ∧ SeqAt.shaped p = true ∧ SeqAt.shaped (.list ps) = true ∧ b = ps.any fun z => PyData.eqv z p) ∨
      ∃ kvs k, DAt h a kvs k ∧ kkOf x = some k ∧ b = (dval kvs k).isSome
  | _ => False
def wpCm (o : Cm) (x y : D) (h : Hc) (Q : Qv) : Prop := match o with
  | .eq => ∃ p q, PdOf h x p ∧ PdOf h y q ∧ SeqAt.shaped p = true ∧ SeqAt.shaped q = true ∧ Q (.bl (PyData.eqv p q)) h
  | .ne => ∃ p q, PdOf h x p ∧ PdOf h y q ∧ SeqAt.shaped p = true ∧ SeqAt.shaped q = true ∧ Q (.bl (!PyData.eqv p q)) h
  | .lt => ∃ i j, x = .int i ∧ y = .int j ∧ Q (.bl (decide (i < j))) h
  | .le => ∃ i j, x = .int i ∧ y = .int j ∧ Q (.bl (decide (i ≤ j))) h
  | .gt => ∃ i j, x = .int i ∧ y = .int j ∧ Q (.bl (decide (j < i))) h
  | .ge => ∃ i j, x = .int i ∧ y = .int j ∧ Q (.bl (decide (j ≤ i))) h
  | .isin => ∃ b, InD h x y b ∧ Q (.bl b) h
  | .notin => ∃ b, InD h x y b ∧ Q (.bl (!b)) h
  | .is => (y = .non ∧ Q (.bl x.isN) h) ∨ ∃ a b, x = .bl a ∧ y = .bl b ∧ Q (.bl (decide (a = b))) h
  | .isnot => (y = .non ∧ Q (.bl (!x.isN)) h) ∨ ∃ a b, x = .bl a ∧ y = .bl b ∧ Q (.bl (!decide (a = b))) h
def wpIx (x i : D) (h : Hc) (Q : Qv) : Prop := match x with
  | .tup xs => ∃ k v, i = .int k ∧ atI xs k = some v ∧ Q v h
  | .str z => ∃ k c, i = .int k ∧ z.length ≤ sizeLine ∧ atI z.cps.toList k = some c ∧ Q (.str ⟨#[c]⟩) h
  | .ref a => (∃ xs k v, RdL h a xs ∧ i = .int k ∧ atI xs k = some v ∧ Q v h) ∨ ∃ kvs k v, DAt h a kvs k ∧ kkOf i = some k ∧ dval kvs k = some v ∧ Q v h
  | _ => False
def wpSl (x : D) (lo hi : Option Int) (h : Hc) (Q : Qv) : Prop := match x with
  | .tup xs => Q (.tup (cutD xs lo hi)) h
  | .str z => z.length ≤ sizeLine ∧ Q (.str (cutS z lo hi)) h
  | .ref a => ∃ xs, RdL h a xs ∧ ∀ p, h p = none → Q (.ref p) (hset h p (.lst (cutD xs lo hi)))
  | _ => False
/-- the value's built-in type is one of these -/
def isTy (h : Hc) : D → Ty → Bool → Prop
  | .non, _, b => b = false
  | .bl _, .int, b => b = true
  | .bl _, .bool, b => b = true
  | .bl _, _, b => b = false
  | .int _, .int, b => b = true
  | .int _, _, b => b = false
  | .str _, .str, b => b = true
  | .str _, _, b => b = false
  | .tup _, .tuple, b => b = true
  | .tup _, _, b => b = false
  | .ref a, t, b => ∃ xs, RdL h a xs ∧ match t with
    | .list => b = true
    | _ => b = false
def wpIsi (x : D) (ts : List Ty) (h : Hc) (Q : Qv) : Prop := match ts with
  | [t] => ∃ b, isTy h x t b ∧ Q (.bl b) h
  | _ => False
/-- a list or a tuple, its items -/
def Sq (h : Hc) (x : D) (xs : List D) : Prop := x = .tup xs ∨ ∃ a, x = .ref a ∧ RdL h a xs
/-- built-in functions, by values -/
def wpBi (b : Bi) (xs : List D) (h : Hc) (Q : Qv) : Prop := match b with
  | .len => ∃ x, xs = [x] ∧ ((∃ z, x = .str z ∧ z.length ≤ sizeLine ∧ Q (.int z.length) h) ∨ ∃ ys, Sq h x ys ∧ Fg Q (.int ys.length) h)
  | .list => ∃ x ys, xs = [x] ∧ Sq h x ys ∧ ∀ p, h p = none → Fg Q (.ref p) (hset h p (.lst ys))
  | .tuple => ∃ x ys, xs = [x] ∧ Sq h x ys ∧ Fg Q (.tup ys) h
  | .max => (∃ i j, xs = [.int i, .int j] ∧ Q (.int (if j > i then j else i)) h) ∨
      ∃ (a : Addr) (ns : List Int), xs = [.ref a] ∧ RdL h a (ns.map D.int) ∧ 0 < ns.length ∧ ∀ m, m ∈ ns → (∀ y, y ∈ ns → y ≤ m) → Fg Q (.int m) h
  | .min => (∃ i j, xs = [.int i, .int j] ∧ Q (.int (if j < i then j else i)) h) ∨
      ∃ (a : Addr) (ns : List Int), xs = [.ref a] ∧ RdL h a (ns.map D.int) ∧ 0 < ns.length ∧ ∀ m, m ∈ ns → (∀ y, y ∈ ns → m ≤ y) → Fg Q (.int m) h
  | .int => (∃ i, xs = [.int i] ∧ Q (.int i) h) ∨ (∃ k, xs = [.bl k] ∧ Q (.int (if k then 1 else 0)) h) ∨ ∃ z n, xs = [.str z] ∧ PySem.intText? z = some n ∧ z.length ≤ 640 ∧ Q (.int n) h
  | .str => ∃ i, xs = [.int i] ∧ i.natAbs.log2 < 1920 ∧ Q (.str (toString i)) h
  | .abs => ∃ i, xs = [.int i] ∧ Q (.int (if i < 0 then -i else i)) h
  | .divmod => ∃ i j, xs = [.int i, .int j] ∧ (0 < j ∧ j < 1073741824) ∧ Q (.tup [.int (i / j), .int (i % j)]) h
  | .all => ∃ (a : Addr) (bs : List Bool), xs = [.ref a] ∧ RdL h a (bs.map D.bl) ∧ Fg Q (.bl (bs.all id)) h
  | .any => ∃ (a : Addr) (bs : List Bool), xs = [.ref a] ∧ RdL h a (bs.map D.bl) ∧ Fg Q (.bl (bs.any id)) h
  | .sorted => False
  | .lenset => ∃ (x : D) (ys : List D) (kss : List (List Key)), xs = [x] ∧ Sq h x ys ∧ ys = kss.map keyT ∧ kss.length ≤ 2000 ∧ ∀ l : List (List Key), l.Nodup → (∀ k, k ∈ l ↔ k ∈ kss) → Fg Q (.int l.length) h
  | .sortset => ∃ (x : D) (ys : List D) (kss : List (List Key)) (pt : List Bool), xs = [x] ∧ Sq h x ys ∧ ys = kss.map keyT ∧ kss.length ≤ 2000 ∧ (∀ k ∈ kss, k.map isI = true :: pt) ∧
      ∀ (p : Addr) (l : List (List Key)), h p = none → l.Nodup → (∀ k, k ∈ l ↔ k ∈ kss) → l.Pairwise (fun a b => lexK b a = false) → Fg Q (.ref p) (hset h p (.lst (l.map keyT)))
/-- built-in methods, by values -/
def wpMt (m : Mt) (o : D) (xs : List D) (h : Hc) (Q : Qv) : Prop := match m with
  | .append => ∃ a ys y, o = .ref a ∧ xs = [y] ∧ h a = some (.lst ys) ∧ ys.length < sizeLine ∧ Q .non (hset h a (.lst (ys ++ [y])))
  | .pop => ∃ a ys y, o = .ref a ∧ xs = [] ∧ h a = some (.lst ys) ∧ ys[ys.length - 1]? = some y ∧ Q y (hset h a (.lst ys.dropLast))
  | .clear => ∃ a ys, o = .ref a ∧ xs = [] ∧ h a = some (.lst ys) ∧ Q .non (hset h a (.lst []))
  | .reverse => ∃ a ys, o = .ref a ∧ xs = [] ∧ h a = some (.lst ys) ∧ Q .non (hset h a (.lst ys.reverse))
  | _ => False

/-! ### loops over items -/
structure Kt where
  nx : Sg → Hc → Prop
  rt : Qv
  ex : Exn → Sg → Hc → Prop
/-- for: chk is asked at each turn and at the end -/
def wpFor (chk : Hc → Prop) (g : D → Sg → Hc → (Sg → Hc → Prop) → Prop) (b : (Sg → Hc → Prop) → Sg → Hc → Prop) (nx : Sg → Hc → Prop) : List D → Sg → Hc → Prop
  | [], σ, h => chk h ∧ nx σ h
  | x :: xs, σ, h => chk h ∧ g x σ h fun σ2 h2 => b (fun σ' h' => wpFor chk g b nx xs σ' h') σ2 h2
def wip (σ : Sg) : List Nat → Sg
  | [] => σ
  | v :: vs => (wip σ vs).set v none
/-- a comprehension: the new list stands at p -/
def wpLc (chk : Hc → Prop) (p : Addr) (g : D → Sg → Hc → (Sg → Hc → Prop) → Prop) (t : Sg → Hc → (Bool → Hc → Prop) → Prop) (e : Sg → Hc → Qv → Prop) (own : List Nat) (σ : Sg) (Q : Qv) : List D → Hc → Prop
  | [], h => chk h ∧ Q (.ref p) h
  | x :: xs, h => chk h ∧ g x (wip σ own) h fun σ2 h2 => wip σ2 own = wip σ own ∧ t σ2 h2 fun b h3 =>
      if b = true then e σ2 h3 fun y h4 => ∃ acc, h4 p = some (.lst acc) ∧ acc.length < sizeLine ∧ wpLc chk p g t e own σ Q xs (hset h4 p (.lst (acc ++ [y])))
      else wpLc chk p g t e own σ Q xs h3

/-- what is walked: its items, and what must stand at each turn -/
abbrev Rw := List D → (Hc → Prop) → Hc → Prop
def walkD (R : Rw) (x : D) (h : Hc) : Prop := match x with
  | .tup xs => R xs (fun _ => True) h
  | .str z => R (z.cps.toList.map fun c => .str ⟨#[c]⟩) (fun _ => True) h
  | .ref a => (∃ xs, RdL h a xs ∧ R xs (fun h' => RdL h' a xs) h) ∨ ∃ kvs, h a = some (.lck (.dic kvs)) ∧ R (kvs.map (·.1)) (fun h' => h' a = some (.lck (.dic kvs))) h
  | _ => False
def rngD (R : Rw) (ds : List D) (h : Hc) : Prop := match ds with
  | [.int j] => -(2 ^ 62) ≤ j ∧ j < 2 ^ 62 ∧ R ((List.range j.toNat).map fun (k : Nat) => .int (0 + (k : Int))) (fun _ => True) h
  | [.int i, .int j] => (-(2 ^ 62) ≤ i ∧ i < 2 ^ 62 ∧ -(2 ^ 62) ≤ j ∧ j < 2 ^ 62) ∧ R ((List.range (j - i).toNat).map fun (k : Nat) => .int (i + (k : Int))) (fun _ => True) h
  | [.int i, .int j, .int c] => ∃ n, RgC i j c n ∧ R ((List.range n).map fun (k : Nat) => .int (i + (k : Int) * c)) (fun _ => True) h
  | _ => False
def zipD (R : Rw) (ds : List D) (h : Hc) : Prop := match ds with
  | [x, y] => ∃ xs ys, ((∃ a b, x = .ref a ∧ y = .ref b ∧ RdL h a xs ∧ RdL h b ys) ∨ (x = .tup xs ∧ y = .tup ys)) ∧ R ((xs.zip ys).map fun p => .tup [p.1, p.2]) (fun h' => Sq h' x xs ∧ Sq h' y ys) h
  | _ => False
/-- the class c is d, or stands under it (filled by the text's own table) -/
abbrev Cls := Nat → Nat → Bool
/-- what the calls do, the classes, the exception at hand -/
structure Md where
  C : Nat → Fn
  L : Cls
  cx : Option Exn := none
mutual
def wpE (M : Md) : E → Sg → Hc → Qv → Qx → Prop
  | .var i, σ, h, Q, _ => ∃ d, σ[i]? = some (some d) ∧ Q d h
  | .con d, _, h, Q, _ => Q d h
  | .tup es, σ, h, Q, X => wpEs M es σ h (fun ds h1 => ds.length ≤ sizeLine ∧ Q (.tup ds) h1) X
  | .lst es, σ, h, Q, X => wpEs M es σ h (fun ds h1 => ds.length ≤ sizeLine ∧ ∀ p, h1 p = none → Q (.ref p) (hset h1 p (.lst ds))) X
  | .dic ks vs, σ, h, Q, X => wpEs M ks σ h (fun kds h1 => wpEs M vs σ h1 (fun vds h2 => kds = [] ∧ vds = [] ∧ ∀ p, h2 p = none → Q (.ref p) (hset h2 p (.dic []))) X) X
  | .bin o a b, σ, h, Q, X => wpE M a σ h (fun x h1 => wpE M b σ h1 (fun y h2 => wpBin o x y h2 Q) X) X
  | .neg a, σ, h, Q, X => wpE M a σ h (fun x h1 => ∃ i, x = .int i ∧ Q (.int (-i)) h1) X
  | .cmp o a b, σ, h, Q, X => wpE M a σ h (fun x h1 => wpE M b σ h1 (fun y h2 => wpCm o x y h2 Q) X) X
  | .chain o o' a b c, σ, h, Q, X => wpE M a σ h (fun x h1 => wpE M b σ h1 (fun y h2 => wpCm o x y h2 fun z h3 => ∃ k, z = .bl k ∧
      if k = true then wpE M c σ h3 (fun w h4 => wpCm o' y w h4 Q) X else Q (.bl false) h3) X) X
  | .and a b, σ, h, Q, X => wpE M a σ h (fun x h1 => ∃ k, Tru h1 x k ∧ if k = true then wpE M b σ h1 Q X else Q x h1) X
  | .or a b, σ, h, Q, X => wpE M a σ h (fun x h1 => ∃ k, Tru h1 x k ∧ if k = true then Q x h1 else wpE M b σ h1 Q X) X
  | .not a, σ, h, Q, X => wpE M a σ h (fun x h1 => ∃ k, Tru h1 x k ∧ Q (.bl (!k)) h1) X
  | .ife c a b, σ, h, Q, X => wpT M c σ h (fun k h1 => if k = true then wpE M a σ h1 Q X else wpE M b σ h1 Q X) X
  | .ix a i, σ, h, Q, X => wpE M a σ h (fun x h1 => wpE M i σ h1 (fun y h2 => wpIx x y h2 Q) X) X
  | .sl a lo hi, σ, h, Q, X => wpE M a σ h (fun x h1 => wpEs M lo σ h1 (fun l h2 => (∃ o : Option Int, l = (o.map D.int).toList) ∧ wpEs M hi σ h2 (fun u h3 =>
      ∃ lo hi : Option Int, l = (lo.map D.int).toList ∧ u = (hi.map D.int).toList ∧ wpSl x lo hi h3 Q) X) X) X
  | .rev a, σ, h, Q, X => wpE M a σ h (fun x h1 => ∃ r xs, x = .ref r ∧ RdL h1 r xs ∧ ∀ p, h1 p = none → Q (.ref p) (hset h1 p (.lst xs.reverse))) X
  | .gget t i, σ, h, Q, X => wpE M i σ h (fun y h1 => ∃ z v, y = .str z ∧ dval t (.one (.inr z)) = some v ∧ Q v h1) X
  | .gin i t, σ, h, Q, X => wpE M i σ h (fun y h1 => ∃ z, y = .str z ∧ Q (.bl (dval t (.one (.inr z))).isSome) h1) X
  | .call f es, σ, h, Q, X => wpEs M es σ h (fun ds h1 => M.C f ds h1 Q X) X
  | .new _, _, _, _, _ => False
  | .bi b es, σ, h, Q, X => wpEs M es σ h (fun ds h1 => wpBi b ds h1 Q) X
  | .mt m o es, σ, h, Q, X => wpE M o σ h (fun x h1 => (∃ r ys, x = .ref r ∧ RdL h1 r ys) ∧ wpEs M es σ h1 (fun ds h2 => wpMt m x ds h2 Q) X) X
  | .um f o es, σ, h, Q, X => wpE M o σ h (fun x h1 => wpEs M es σ h1 (fun ds h2 => M.C f (x :: ds) h2 Q X) X) X
  | .fld _ _, _, _, _, _ => False
  | .isi e ts, σ, h, Q, X => wpE M e σ h (fun x h1 => wpIsi x ts h1 Q) X
  | .exis cs, _, h, Q, _ => ∃ x, M.cx = some x ∧ Q (.bl (cs.any fun c => M.L x.c c)) h
  | .exat, _, h, Q, _ => ∃ x d, M.cx = some x ∧ x.p = some d ∧ Q d h
  | .lc e tg it c own, σ, h, Q, X => wpIt M it σ h (fun items chk h1 => ∀ p, h1 p = none →
      wpLc chk p (fun d σ h q => wpTg M tg d σ h q fun _ _ => False) (fun σ h q => wpCs M c σ h q) (fun σ h q => wpE M e σ h q fun _ _ => False) own σ Q items (hset h1 p (.lst []))) X
  | .fst _, _, _, _, _ => False
def wpEs (M : Md) : Es → Sg → Hc → (List D → Hc → Prop) → Qx → Prop
  | .nil, _, h, Q, _ => Q [] h
  | .cons e es, σ, h, Q, X => wpE M e σ h (fun x h1 => wpEs M es σ h1 (fun xs h2 => Q (x :: xs) h2) X) X
/-- as a test -/
def wpT (M : Md) : E → Sg → Hc → (Bool → Hc → Prop) → Qx → Prop
  | .and a b, σ, h, Q, X => wpT M a σ h (fun k h1 => if k = true then wpT M b σ h1 Q X else Q false h1) X
  | .or a b, σ, h, Q, X => wpT M a σ h (fun k h1 => if k = true then Q true h1 else wpT M b σ h1 Q X) X
  | .not a, σ, h, Q, X => wpT M a σ h (fun k h1 => Q (!k) h1) X
  | .var i, σ, h, Q, _ => ∃ d, σ[i]? = some (some d) ∧ ∃ k, Tru h d k ∧ Q k h
  | .cmp o a b, σ, h, Q, X => wpE M a σ h (fun x h1 => wpE M b σ h1 (fun y h2 => wpCm o x y h2 fun z h3 => ∃ k, z = .bl k ∧ Q k h3) X) X
  | .chain o o' a b c, σ, h, Q, X => wpE M a σ h (fun x h1 => wpE M b σ h1 (fun y h2 => wpCm o x y h2 fun z h3 => ∃ k, z = .bl k ∧
      if k = true then wpE M c σ h3 (fun w h4 => wpCm o' y w h4 fun z h5 => ∃ k, z = .bl k ∧ Q k h5) X else (∃ k, D.bl false = .bl k ∧ Q k h3)) X) X
  | .ix a i, σ, h, Q, X => wpE M a σ h (fun x h1 => wpE M i σ h1 (fun y h2 => wpIx x y h2 fun z h3 => ∃ k, Tru h3 z k ∧ Q k h3) X) X
  | .gin i t, σ, h, Q, X => wpE M i σ h (fun y h1 => ∃ z, y = .str z ∧ Q (dval t (.one (.inr z))).isSome h1) X
  | .call f es, σ, h, Q, X => wpEs M es σ h (fun ds h1 => M.C f ds h1 (fun z h2 => ∃ k, Tru h2 z k ∧ Q k h2) X) X
  | .bi b es, σ, h, Q, X => wpEs M es σ h (fun ds h1 => wpBi b ds h1 fun z h2 => ∃ k, Tru h2 z k ∧ Q k h2) X
  | .isi e ts, σ, h, Q, X => wpE M e σ h (fun x h1 => wpIsi x ts h1 fun z h2 => ∃ k, Tru h2 z k ∧ Q k h2) X
  | .exis cs, _, h, Q, _ => ∃ x, M.cx = some x ∧ ∃ b, Tru h (.bl (cs.any fun c => M.L x.c c)) b ∧ Q b h
  | _, _, _, _, _ => False
/-- a clause's tests: none or one -/
def wpCs (M : Md) : Es → Sg → Hc → (Bool → Hc → Prop) → Prop
  | .nil, _, h, Q => Q true h
  | .cons e .nil, σ, h, Q => wpT M e σ h Q fun _ _ => False
  | _, _, _, _ => False
def wpTg (M : Md) : Tg → D → Sg → Hc → (Sg → Hc → Prop) → Qx → Prop
  | .nm i, d, σ, h, Q, _ => Q (σ.set i (some d)) h
  | .tup ts, d, σ, h, Q, _ => ∃ ds, Sq h d ds ∧ ds.length = ts.len ∧ wpTgs M ts ds σ h Q
  | .ix o i, d, σ, h, Q, X => wpE M o σ h (fun x h1 => wpE M i σ h1 (fun y h2 =>
      (∃ a xs k j, x = .ref a ∧ y = .int k ∧ h2 a = some (.lst xs) ∧ ixN xs.length k = some j ∧ Q σ (hset h2 a (.lst (xs.set j d)))) ∨
      ∃ a kvs k, x = .ref a ∧ kkOf y = some k ∧ h2 a = some (.dic kvs) ∧ kindB kvs k = true ∧ kvs.length < sizeLine ∧ Q σ (hset h2 a (.dic (dput kvs k d)))) X) X
  | .fld _ _, _, _, _, _, _ => False
def wpTgs (M : Md) : Tgs → List D → Sg → Hc → (Sg → Hc → Prop) → Prop
  | .nil, ds, σ, h, Q => ds = [] ∧ Q σ h
  | .cons t ts, ds, σ, h, Q => ∃ d r, ds = d :: r ∧ wpTg M t d σ h (fun σ1 h1 => wpTgs M ts r σ1 h1 Q) fun _ _ => False
/-- what is walked: its items, and what must stand at each turn -/
def wpIt (M : Md) : It → Sg → Hc → Rw → Qx → Prop
  | .of e, σ, h, R, X => wpE M e σ h (fun x h1 => walkD R x h1) X
  | .rng es, σ, h, R, X => wpEs M es σ h (fun ds h1 => ds.length = es.len ∧ rngD R ds h1) X
  | .enum e, σ, h, R, X => wpE M e σ h (fun x h1 => ∃ xs, Sq h1 x xs ∧ R (xs.zipIdx.map fun p => .tup [.int p.2, p.1]) (fun h' => Sq h' x xs) h1) X
  | .zip es, σ, h, R, X => wpEs M es σ h (fun ds h1 => zipD R ds h1) X
end

/-- a loop under a dict that is locked meanwhile -/
def Lk (d : Addr) (kvs : List (D × D)) (K : Kt) : Kt :=
  ⟨fun σ h => h d = some (.lck (.dic kvs)) ∧ K.nx σ (hset h d (.dic kvs)), fun v h => h d = some (.lck (.dic kvs)) ∧ K.rt v (hset h d (.dic kvs)), fun _ _ _ => False⟩

mutual
def wpS (M : Md) : S → Kt → Sg → Hc → Prop
  | .ex e, K, σ, h => wpE M e σ h (fun _ h1 => K.nx σ h1) (fun x h1 => K.ex x σ h1)
  | .asg t e, K, σ, h => wpE M e σ h (fun d h1 => wpTg M t d σ h1 K.nx (fun x h1 => K.ex x σ h1)) (fun x h1 => K.ex x σ h1)
  | .par i j a b, K, σ, h => wpE M a σ h (fun x h1 => wpE M b σ h1 (fun y h2 => ∃ x' y', [x, y] = [x', y'] ∧ K.nx ((σ.set i (some x')).set j (some y')) h2) (fun x h1 => K.ex x σ h1)) (fun x h1 => K.ex x σ h1)
  | .aug i o e, K, σ, h => ∃ x, σ[i]? = some (some x) ∧ wpE M e σ h (fun y h1 => wpAug o x y h1 fun z h2 => K.nx (σ.set i (some z)) h2) (fun x h1 => K.ex x σ h1)
  | .augix a i o e, K, σ, h => wpE M a σ h (fun x h1 => wpE M i σ h1 (fun y h2 => ∃ r kvs k v, x = .ref r ∧ DAt h2 r kvs k ∧ kkOf y = some k ∧ dval kvs k = some v ∧
      wpE M e σ h2 (fun z h3 => wpAug o v z h3 fun w h4 => ∃ kvs4, h4 r = some (.dic kvs4) ∧ kindB kvs4 k = true ∧ kvs4.length < sizeLine ∧ K.nx σ (hset h4 r (.dic (dput kvs4 k w)))) (fun x h1 => K.ex x σ h1)) (fun x h1 => K.ex x σ h1)) (fun x h1 => K.ex x σ h1)
  | .ifs c a b, K, σ, h => wpT M c σ h (fun k h1 => if k = true then wpSs M a K σ h1 else wpSs M b K σ h1) (fun x h1 => K.ex x σ h1)
  | .whil c b, K, σ, h => ∃ W : Nat → Sg → Hc → Prop, (∃ m, W m σ h) ∧ ∀ m σ h, W m σ h →
      wpT M c σ h (fun k h1 => if k = true then wpSs M b { K with nx := fun σ' h' => ∃ m', m' < m ∧ W m' σ' h' } σ h1 else K.nx σ h1) (fun x h1 => K.ex x σ h1)
  | .forr t it b, K, σ, h =>
      (wpIt M it σ h (fun items chk h1 => wpFor chk (fun d σ h q => wpTg M t d σ h q fun x h1 => K.ex x σ h1) (fun nx σ h => wpSs M b { K with nx := nx } σ h) K.nx items σ h1) (fun x h1 => K.ex x σ h1)) ∨
      ∃ d kvs, h d = some (.dic kvs) ∧ wpIt M it σ (hset h d (.lck (.dic kvs))) (fun items chk h1 => wpFor chk (fun d' σ h q => wpTg M t d' σ h q fun _ _ => False)
        (fun nx σ h => wpSs M b { Lk d kvs K with nx := nx } σ h) (Lk d kvs K).nx items σ h1) (fun _ _ => False)
  | .ret e, K, σ, h => wpE M e σ h (fun d h1 => K.rt d h1) (fun x h1 => K.ex x σ h1)
  | .retN, K, _, h => K.rt .non h
  | .raise c .nil, K, σ, h => K.ex ⟨c, none⟩ σ h
  | .raise c (.cons e .nil), K, σ, h => wpE M e σ h (fun d h1 => K.ex ⟨c, some d⟩ σ h1) (fun x h1 => K.ex x σ h1)
  | .raise _ _, _, _, _ => False
  | .tri b c i s, K, σ, h => wpSs M b { K with ex := fun x σ1 h1 => if M.L x.c c = true then wpSs { M with cx := some x } s { K with nx := fun σ2 h2 => K.nx (σ2.set i none) h2 } (σ1.set i none) h1 else K.ex x σ1 h1 } σ h
def wpSs (M : Md) : Ss → Kt → Sg → Hc → Prop
  | .nil, K, σ, h => K.nx σ h
  | .cons s ss, K, σ, h => wpS M s { K with nx := fun σ1 h1 => wpSs M ss K σ1 h1 } σ h
end

/-- the slots at the entry -/
def begn (n : Nat) (ds : List D) : Sg := ds.map some ++ List.replicate (n - ds.length) none
def wpF (C : Nat → Fn) (L : Cls) (d : FDef) : Fn := fun ds h Q X => ds.length = d.np ∧
  wpSs ⟨C, L, none⟩ d.body ⟨fun _ h' => Fg Q .non h', fun v h' => Fg Q v h', fun x _ h' => ∃ h'', Sub h'' h' ∧ X x h''⟩ (begn d.nn ds) h
/-- calls to a depth -/
def cN (T : Nat → Option FDef) (L : Cls) : Nat → Nat → Fn
  | 0, _ => fun _ _ _ _ => False
  | n + 1, f => fun ds h Q X => match T f with
    | some d => wpF (cN T L n) L d ds h Q X
    | none => False
end Sr

set_option Elab.async false
set_option linter.all false
set_option maxRecDepth 100000
set_option autoImplicit false
/-! Sr2: how clean values, heaps and readings lie over the layer's. -/
namespace Sr
open PySem PySem.Spec PyProof.Rows L2

mutual
def Rp (H : Hp) : D → V → Prop
  | .non, v => v = .non
  | .bl b, v => v = .bl b
  | .int i, v => v = .int i
  | .str x, v => v = .str x
  | .ref a, v => v = .ref a
  | .tup ds, v => ∃ a xs, v = .ref a ∧ H a = some (.tup xs) ∧ Rps H ds xs
def Rps (H : Hp) : List D → List V → Prop
  | [], xs => xs = []
  | d :: ds, xs => ∃ v vs, xs = v :: vs ∧ Rp H d v ∧ Rps H ds vs
end
/-- tuples stay, and what is locked -/
def Ext (H H' : Hp) : Prop := (∀ a xs, H a = some (.tup xs) → H' a = some (.tup xs)) ∧ ∀ a o u, H a = some (.frz o u) → H' a = some (.frz o u)
section
variable {H H' H2 : Hp} {a : Addr} {o : HO}
theorem Ext.refl (H : Hp) : Ext H H := ⟨fun _ _ e => e, fun _ _ _ e => e⟩
theorem Ext.trans (x : Ext H H') (y : Ext H' H2) : Ext H H2 := ⟨fun a xs e => y.1 a xs (x.1 a xs e), fun a o u e => y.2 a o u (x.2 a o u e)⟩
theorem Ext.new (n : H a = none) : Ext H (upd H a o) := ⟨fun b xs e => by rw [upd_ne (ne_of_none e n)]; exact e, fun b u v e => by rw [upd_ne (ne_of_none e n)]; exact e⟩
theorem Ext.mut (m : Mut (H a)) : Ext H (upd H a o) := ⟨fun b xs e => by
  have : b ≠ a := fun z => by rw [← z, e] at m; exact m
  rw [upd_ne this]; exact e, fun b u v e => by
  have : b ≠ a := fun z => by rw [← z, e] at m; exact m
  rw [upd_ne this]; exact e⟩
mutual
theorem Rp.ext (x : Ext H H') : ∀ {d : D} {v : V}, Rp H d v → Rp H' d v
  | .non, _, r => r
  | .bl _, _, r => r
  | .int _, _, r => r
  | .str _, _, r => r
  | .ref _, _, r => r
  | .tup ds, v, r => by
    obtain ⟨a, xs, e, h, q⟩ := r
    exact ⟨a, xs, e, x.1 a xs h, Rps.ext x q⟩
theorem Rps.ext (x : Ext H H') : ∀ {ds : List D} {vs : List V}, Rps H ds vs → Rps H' ds vs
  | [], _, r => r
  | d :: ds, xs, r => by
    obtain ⟨v, vs, e, h, q⟩ := r
    exact ⟨v, vs, e, Rp.ext x h, Rps.ext x q⟩
end
theorem Rps.nil : Rps H [] [] := rfl
theorem Rps.cons {d : D} {ds : List D} {v : V} {vs : List V} (r : Rp H d v) (q : Rps H ds vs) : Rps H (d :: ds) (v :: vs) := ⟨v, vs, rfl, r, q⟩
theorem Rps.len : ∀ {ds : List D} {vs : List V}, Rps H ds vs → ds.length = vs.length
  | [], _, r => by cases r; rfl
  | d :: ds, _, ⟨v, vs, e, _, q⟩ => by rw [e]; exact congrArg Nat.succ (Rps.len q)
theorem Rps.app : ∀ {ds es : List D} {vs us : List V}, Rps H ds vs → Rps H es us → Rps H (ds ++ es) (vs ++ us)
  | [], es, _, us, r, q => by cases r; exact q
  | d :: ds, es, _, us, ⟨v, vs, e, r, r2⟩, q => by subst e; exact ⟨v, vs ++ us, rfl, r, Rps.app r2 q⟩
theorem Rps.get : ∀ {ds : List D} {vs : List V} {i : Nat} {d : D}, Rps H ds vs → ds[i]? = some d → ∃ v, vs[i]? = some v ∧ Rp H d v
  | [], _, i, d, _, e => by simp at e
  | x :: ds, _, 0, d, ⟨v, vs, ev, r, _⟩, e => by subst ev; simp at e; subst e; exact ⟨v, rfl, r⟩
  | x :: ds, _, i + 1, d, ⟨v, vs, ev, _, q⟩, e => by subst ev; exact Rps.get (i := i) q (by simpa using e)
theorem Rps.get' : ∀ {ds : List D} {vs : List V} {i : Nat} {v : V}, Rps H ds vs → vs[i]? = some v → ∃ d, ds[i]? = some d ∧ Rp H d v
  | [], _, i, v, r, e => by cases r; simp at e
  | x :: ds, _, 0, v, ⟨u, vs, ev, r, _⟩, e => by subst ev; simp at e; subst e; exact ⟨x, rfl, r⟩
  | x :: ds, _, i + 1, v, ⟨u, vs, ev, _, q⟩, e => by subst ev; exact Rps.get' (i := i) q (by simpa using e)
theorem Rps.take : ∀ {ds : List D} {vs : List V} (n : Nat), Rps H ds vs → Rps H (ds.take n) (vs.take n)
  | [], _, n, r => by cases r; simp [Rps]
  | _ :: _, _, 0, ⟨v, vs, e, _, _⟩ => by subst e; exact rfl
  | d :: ds, _, n + 1, ⟨v, vs, e, r, q⟩ => by subst e; exact ⟨v, vs.take n, rfl, r, Rps.take n q⟩
theorem Rps.drop : ∀ {ds : List D} {vs : List V} (n : Nat), Rps H ds vs → Rps H (ds.drop n) (vs.drop n)
  | [], _, n, r => by cases r; simp [Rps]
  | d :: ds, _, 0, r => r
  | d :: ds, _, n + 1, ⟨v, vs, e, _, q⟩ => by subst e; exact Rps.drop n q
theorem Rps.set : ∀ {ds : List D} {vs : List V} {d : D} {v : V} (i : Nat), Rps H ds vs → Rp H d v → Rps H (ds.set i d) (vs.set i v)
  | [], _, _, _, i, r, _ => by cases r; simp [Rps]
  | x :: ds, _, d, v, 0, ⟨u, vs, e, _, q⟩, r => by subst e; exact ⟨v, vs, rfl, r, q⟩
  | x :: ds, _, d, v, i + 1, ⟨u, vs, e, r0, q⟩, r => by subst e; exact ⟨u, vs.set i v, rfl, r0, Rps.set i q r⟩
theorem Rps.rev {ds : List D} {vs : List V} (r : Rps H ds vs) : Rps H ds.reverse vs.reverse := by
  induction ds generalizing vs with
  | nil => cases r; rfl
  | cons d ds ih =>
    obtain ⟨v, us, e, h, q⟩ := r
    subst e
    rw [List.reverse_cons, List.reverse_cons]
    exact (ih q).app (.cons h .nil)
theorem Rps.dropLast : ∀ {ds : List D} {vs : List V}, Rps H ds vs → Rps H ds.dropLast vs.dropLast
  | [], _, r => by cases r; rfl
  | [d], _, ⟨v, vs, e, _, q⟩ => by subst e; cases q; rfl
  | d :: e :: ds, _, ⟨v, vs, ev, r, q⟩ => by
    subst ev
    obtain ⟨u, us, eu, r2, q2⟩ := q
    subst eu
    exact ⟨v, _, rfl, r, Rps.dropLast (ds := e :: ds) ⟨u, us, rfl, r2, q2⟩⟩
theorem Rps.rep {ds : List D} {vs : List V} (r : Rps H ds vs) : ∀ k : Nat, Rps H (List.replicate k ds).flatten (List.replicate k vs).flatten
  | 0 => rfl
  | k + 1 => by
    rw [List.replicate_succ, List.replicate_succ, List.flatten_cons, List.flatten_cons]
    exact r.app (Rps.rep r k)
theorem Rps.ints {H : Hp} : ∀ {ns : List Int} {vs : List V}, Rps H (ns.map D.int) vs → vs = ns.map V.int
  | [], _, r => r
  | n :: ns, _, ⟨v, vs, e, r, q⟩ => by rw [e, show v = .int n from r, Rps.ints q]; rfl
theorem Rps.ints' {H : Hp} : ∀ ns : List Int, Rps H (ns.map D.int) (ns.map V.int)
  | [] => rfl
  | n :: ns => .cons rfl (Rps.ints' ns)
theorem Rps.bls {H : Hp} : ∀ {ns : List Bool} {vs : List V}, Rps H (ns.map D.bl) vs → vs = ns.map V.bl
  | [], _, r => r
  | n :: ns, _, ⟨v, vs, e, r, q⟩ => by rw [e, show v = .bl n from r, Rps.bls q]; rfl
end

/-! ### heaps -/
def DicR (H : Hp) (at_ : HO → Prop) (kvs : List (D × D)) : Prop :=
  (∃ ks : List (Key × V), at_ (.dK ks) ∧ Paired (fun p q => p.1 = keyD q.1 ∧ Rp H p.2 q.2) kvs ks) ∨
  ∃ ks : List (List Key × V), at_ (.dT ks) ∧ Paired (fun p q => p.1 = .tup (q.1.map keyD) ∧ Rp H p.2 q.2) kvs ks
def RO (K : PySem.W.Frag) (H : Hp) (a : Addr) : MO → Prop
  | .lst ds => ∃ xs, H a = some (.lst xs) ∧ Rps H ds xs
  | .dic kvs => DicR H (fun o => H a = some o) kvs
  | .obj _ _ => False
  | .lck (.lst ds) => ∃ xs, Rd H a (.lst xs) ∧ Rps H ds xs
  | .lck (.dic kvs) => DicR H (fun o => ∃ ob, H a = some (.frz ob o)) kvs
  | .lck _ => False
def RH (K : PySem.W.Frag) (H : Hp) (h : Hc) : Prop := ∀ a o, h a = some o → RO K H a o
theorem RH.sub {K : PySem.W.Frag} {H : Hp} {h h' : Hc} (r : RH K H h) (s : Sub h' h) : RH K H h' := fun a o e => r a o (s a o e)
theorem RO.there {K : PySem.W.Frag} {H : Hp} {a : Addr} {o : MO} (r : RO K H a o) : ∃ u, H a = some u := by
  cases o with
  | lst ds => obtain ⟨xs, e, _⟩ := r; exact ⟨_, e⟩
  | dic kvs => rcases r with ⟨ks, e, _⟩ | ⟨ks, e, _⟩ <;> exact ⟨_, e⟩
  | obj c fs => exact r.elim
  | lck o =>
    cases o with
    | lst ds =>
      obtain ⟨xs, e | ⟨ob, e⟩, _⟩ := r
      · exact ⟨_, e⟩
      · exact ⟨_, e⟩
    | dic kvs => rcases r with ⟨ks, ⟨ob, e⟩, _⟩ | ⟨ks, ⟨ob, e⟩, _⟩ <;> exact ⟨_, e⟩
    | obj c fs => exact r.elim
    | lck o => exact r.elim

/-- the slots; ev: the slot of an except clause's name, its exception -/
structure Rs (ev : Option (Nat × Addr)) (H : Hp) (c : Sg) (σ : L2.St) : Prop where
  len : c.length = σ.length
  at_ : ∀ (i : Nat) (d : D), c[i]? = some (some d) → ∃ v, σ[i]? = some (some v) ∧ Rp H d v
  ev_ : ∀ (i : Nat) (a : Addr), ev = some (i, a) → σ[i]? = some (some (.ref a))
theorem Rs.ext {ev : Option (Nat × Addr)} {H H' : Hp} {c : Sg} {σ : L2.St} (r : Rs ev H c σ) (x : Ext H H') : Rs ev H' c σ :=
  ⟨r.len, fun i d e => let ⟨v, e1, q⟩ := r.at_ i d e; ⟨v, e1, q.ext x⟩, r.ev_⟩
/-- a way of looking: the written part, the except name, the wish about exceptions and how they lie -/
structure Cq where
  K : PySem.W.Frag
  ev : Option (Nat × Addr)
  W : WX
  cA : Nat → Option Addr
/-- an exception -/
def RX (q : Cq) (x : Exn) (cls : Value) (dd : Option Addr) (H : Hp) : Prop := ∃ C, q.cA x.c = some C ∧ cls = .ref C ∧ match x.p with
  | none => dd = none
  | some d => ∃ a v, dd = some a ∧ H a = some (.xd [("at", v)]) ∧ Rp H d v
/-- a clean reading, as the layer's -/
def low (q : Cq) (t : Sg → Hc → Qv → Qx → Prop) : TE := fun σ H Q => ∃ c h Qc Xc, Rs q.ev H c σ ∧ RH q.K H h ∧ t c h Qc Xc ∧
  (∀ d h' v H', Qc d h' → Rp H' d v → RH q.K H' h' → Ext H H' → Q v H') ∧ (∀ x h' cls dd H', Xc x h' → RX q x cls dd H' → RH q.K H' h' → Ext H H' → q.W cls dd σ H')
def lowT (q : Cq) (t : Sg → Hc → (Bool → Hc → Prop) → Qx → Prop) : TT := fun σ H Q => ∃ c h Qc Xc, Rs q.ev H c σ ∧ RH q.K H h ∧ t c h Qc Xc ∧
  (∀ d h' H', Qc d h' → RH q.K H' h' → Ext H H' → Q d H') ∧ (∀ x h' cls dd H', Xc x h' → RX q x cls dd H' → RH q.K H' h' → Ext H H' → q.W cls dd σ H')
def lowA (q : Cq) (t : Sg → Hc → (List D → Hc → Prop) → Qx → Prop) : TA := fun σ H Q => ∃ c h Qc Xc, Rs q.ev H c σ ∧ RH q.K H h ∧ t c h Qc Xc ∧
  (∀ d h' v H', Qc d h' → Rps H' d v → RH q.K H' h' → Ext H H' → Q v H') ∧ (∀ x h' cls dd H', Xc x h' → RX q x cls dd H' → RH q.K H' h' → Ext H H' → q.W cls dd σ H')
/-- the slots but these stay -/
def SameS (sl : List Nat) (σ σ' : L2.St) : Prop := σ'.length = σ.length ∧ ∀ i : Nat, i ∉ sl → σ'[i]? = σ[i]?
theorem SameS.refl (sl : List Nat) (σ : L2.St) : SameS sl σ σ := ⟨rfl, fun _ _ => rfl⟩
theorem SameS.trans {s1 s2 : List Nat} {σ σ1 σ2 : L2.St} (a : SameS s1 σ σ1) (b : SameS s2 σ1 σ2) : SameS (s1 ++ s2) σ σ2 :=
  ⟨b.1.trans a.1, fun i n => (b.2 i fun z => n (List.mem_append_right _ z)).trans (a.2 i fun z => n (List.mem_append_left _ z))⟩
def lowG (q : Cq) (sl : List Nat) (t : D → Sg → Hc → (Sg → Hc → Prop) → Qx → Prop) : TG := fun v σ H Q => ∃ d c h Qc Xc, Rp H d v ∧ Rs q.ev H c σ ∧ RH q.K H h ∧ t d c h Qc Xc ∧
  (∀ c' h' σ' H', Qc c' h' → Rs q.ev H' c' σ' → RH q.K H' h' → Ext H H' → SameS sl σ σ' → Q σ' H') ∧ (∀ x h' cls dd H', Xc x h' → RX q x cls dd H' → RH q.K H' h' → Ext H H' → q.W cls dd σ H')
def lowS (q : Cq) (t : Kt → Sg → Hc → Prop) : TS := fun D σ H => ∃ c h Kc, Rs q.ev H c σ ∧ RH q.K H h ∧ t Kc c h ∧
  (∀ c' h' σ' H', Kc.nx c' h' → Rs q.ev H' c' σ' → RH q.K H' h' → Ext H H' → D.nx σ' H') ∧
  (∀ d h' v H', Kc.rt d h' → Rp H' d v → RH q.K H' h' → Ext H H' → D.rt v H') ∧
  (∀ x c' h' cls dd σ' H', Kc.ex x c' h' → RX q x cls dd H' → Rs q.ev H' c' σ' → RH q.K H' h' → Ext H H' → q.W cls dd σ' H')

theorem _root_.L2.PE.imp {X : Cx} {e : Expr} {t t' : TE} (h : PE X e t) (i : ∀ σ H Q, t' σ H Q → t σ H Q) : PE X e t' := ⟨fun pins s σ H Q I hw => h.run pins s σ H Q I (i σ H Q hw)⟩
theorem _root_.L2.PT.imp {X : Cx} {e : Expr} {t t' : TT} (h : PT X e t) (i : ∀ σ H Q, t' σ H Q → t σ H Q) : PT X e t' := ⟨fun pins s σ H Q I hw => h.run pins s σ H Q I (i σ H Q hw)⟩
theorem _root_.L2.PW.imp {X : Cx} {e : Expr} {t t' : TT} (h : PW X e t) (i : ∀ σ H Q, t' σ H Q → t σ H Q) : PW X e t' := ⟨fun w pins s σ H Q I hw => h.run w pins s σ H Q I (i σ H Q hw)⟩
theorem _root_.L2.PA.imp {X : Cx} {e : List Expr} {t t' : TA} (h : PA X e t) (i : ∀ σ H Q, t' σ H Q → t σ H Q) : PA X e t' := ⟨fun p pins s σ H Q I hw => h.run p pins s σ H Q I (i σ H Q hw)⟩
theorem _root_.L2.PS.imp {X : Cx} {e : Stmt} {t t' : TS} (h : PS X e t) (i : ∀ σ H Q, t' σ H Q → t σ H Q) : PS X e t' := ⟨fun pins s σ H Q I hw => h.run pins s σ H Q I (i _ _ _ hw)⟩

/-! ### heaps that change -/
section
variable {K : PySem.W.Frag} {H H' : Hp} {h : Hc} {a : Addr} {mo : MO} {ho : HO}
theorem paired_ext {β : Type} {f : β → D} (x : Ext H H') : ∀ {kvs : List (D × D)} {ks : List (β × V)}, Paired (fun p q => p.1 = f q.1 ∧ Rp H p.2 q.2) kvs ks → Paired (fun p q => p.1 = f q.1 ∧ Rp H' p.2 q.2) kvs ks
  | _, _, .nil => .nil
  | _, _, .cons r t => .cons ⟨r.1, r.2.ext x⟩ (paired_ext x t)
theorem DicR.ext {at_ at' : HO → Prop} {kvs : List (D × D)} (x : Ext H H') (k : ∀ o, at_ o → at' o) (r : DicR H at_ kvs) : DicR H' at' kvs := by
  rcases r with ⟨ks, e, p⟩ | ⟨ks, e, p⟩
  · exact .inl ⟨ks, k _ e, paired_ext x p⟩
  · exact .inr ⟨ks, k _ e, paired_ext (f := fun (z : List Key) => D.tup (z.map keyD)) x p⟩
theorem RO.keep (x : Ext H H') (e : H' a = H a) : ∀ {mo : MO}, RO K H a mo → RO K H' a mo
  | .lst ds, ⟨xs, q, r⟩ => ⟨xs, e.trans q, r.ext x⟩
  | .dic kvs, r => DicR.ext x (fun o q => e.trans q) r
  | .obj _ _, r => r.elim
  | .lck (.lst ds), ⟨xs, q, r⟩ => ⟨xs, by
      rcases q with q | ⟨ob, q⟩
      · exact .inl (e.trans q)
      · exact .inr ⟨ob, e.trans q⟩, r.ext x⟩
  | .lck (.dic kvs), r => DicR.ext (at_ := fun (o : HO) => ∃ ob, H a = some (HO.frz ob o)) (at' := fun (o : HO) => ∃ ob, H' a = some (HO.frz ob o)) x (fun o ⟨ob, q⟩ => ⟨ob, e.trans q⟩) r
  | .lck (.obj _ _), r => r.elim
  | .lck (.lck _), r => r.elim
theorem RH.free (r : RH K H h) (n : H a = none) : h a = none := by
  cases q : h a with
  | none => rfl
  | some o =>
    obtain ⟨u, e⟩ := (r a o q).there
    rw [n] at e; cases e
theorem RH.upd (r : RH K H h) (x : Ext H (upd H a ho)) (ro : RO K (upd H a ho) a mo) : RH K (upd H a ho) (hset h a mo) := fun b o e => by
  by_cases z : b = a
  · subst z; rw [hset_same] at e; cases e; exact ro
  · rw [hset_ne z] at e
    exact (r b o e).keep x (upd_ne z)
/-- a thing that the clean heap does not know -/
theorem RH.new0 (r : RH K H h) (n : H a = none) : RH K (L2.upd H a ho) h := fun b o e => by
  have hb : b ≠ a := fun z => by rw [z, r.free n] at e; cases e
  exact (r b o e).keep (Ext.new n) (upd_ne hb)
theorem RH.lstNew {ds : List D} {vs : List V} (r : RH K H h) (n : H a = none) (q : Rps H ds vs) : RH K (L2.upd H a (.lst vs)) (hset h a (.lst ds)) :=
  r.upd (Ext.new n) ⟨vs, upd_same, q.ext (Ext.new n)⟩
theorem RH.lstPut {ds es : List D} {us : List V} (r : RH K H h) (e : h a = some (.lst es)) (q : Rps H ds us) : RH K (L2.upd H a (.lst us)) (hset h a (.lst ds)) ∧ Ext H (L2.upd H a (.lst us)) := by
  obtain ⟨xs, e1, _⟩ := r a _ e
  have m : Mut (H a) := by rw [e1]; trivial
  exact ⟨r.upd (Ext.mut m) ⟨us, upd_same, q.ext (Ext.mut m)⟩, Ext.mut m⟩
theorem RH.lst {ds : List D} (r : RH K H h) (e : h a = some (.lst ds)) : ∃ vs, H a = some (.lst vs) ∧ Rps H ds vs := r a _ e
theorem RH.rdl {ds : List D} (r : RH K H h) (e : RdL h a ds) : ∃ vs, SqL K H a vs ∧ Rps H ds vs := by
  rcases e with e | e
  · obtain ⟨vs, e1, q⟩ := r a _ e
    exact ⟨vs, .of e1, q⟩
  · obtain ⟨vs, e1, q⟩ := r a _ e
    exact ⟨vs, .inl e1, q⟩
end
/-! ### data -/
section
variable {K : PySem.W.Frag} {H : Hp} {h : Hc}
mutual
theorem PdOf.dp (r : RH K H h) : ∀ {d : D} {p : PyData} {v : V}, PdOf h d p → Rp H d v → Dp K H v p
  | _, _, _, .non, e => by cases e; exact .non
  | _, _, _, .bl b, e => by cases e; exact .bl b
  | _, _, _, .int i, e => by cases e; exact .int i
  | _, _, _, .str x, e => by cases e; exact .str x
  | _, _, _, .tup q, e => by
    obtain ⟨a, xs, rfl, e1, rs⟩ := e
    exact .tup (.of e1) (PdsOf.dp r q rs)
  | _, _, _, .lst ha q, e => by
    cases e
    obtain ⟨vs, e1, rs⟩ := r.rdl ha
    exact .lst e1 (PdsOf.dp r q rs)
theorem PdsOf.dp (r : RH K H h) : ∀ {ds : List D} {ps : List PyData} {vs : List V}, PdsOf h ds ps → Rps H ds vs → DpAll K H vs ps
  | _, _, _, .nil, e => by cases e; exact .nil
  | _, _, _, .cons q qs, ⟨v, vs, e, r1, rs⟩ => by subst e; exact .cons (PdOf.dp r q r1) (PdsOf.dp r qs rs)
end
theorem flat_of {d : D} {v : V} (r : Rp H d v) (f : flatD d = true) : flatV v = true := by
  cases d <;> first | (cases r; rfl) | cases f
theorem flats_of : ∀ {ds : List D} {vs : List V}, Rps H ds vs → ds.all flatD = true → vs.all flatV = true
  | [], _, r, _ => by cases r; rfl
  | d :: ds, _, ⟨v, vs, e, r, q⟩, f => by
    subst e
    rw [List.all_cons, Bool.and_eq_true] at f ⊢
    exact ⟨flat_of r f.1, flats_of q f.2⟩
theorem eqF_of {d e : D} {v u : V} (r : Rp H d v) (q : Rp H e u) (f : flatD d = true) (g : flatD e = true) : eqV v u = eqF d e := by
  cases d <;> cases e <;> first | exact Bool.noConfusion (show false = true from f) | exact Bool.noConfusion (show false = true from g) | (cases r; cases q; rfl)
theorem inF_of {x : D} {v : V} (r : Rp H x v) (f : flatD x = true) : ∀ {ds : List D} {vs : List V}, Rps H ds vs → ds.all flatD = true → inV v vs = inF x ds
  | [], _, q, _ => by cases q; rfl
  | d :: ds, _, ⟨u, vs, e, r1, q⟩, g => by
    subst e
    rw [List.all_cons, Bool.and_eq_true] at g
    have ih := inF_of r f q g.2
    unfold inV inF at *
    rw [List.any_cons, List.any_cons, ih, eqF_of r1 r g.1 f]
theorem tru_of {d : D} {v : V} {k : Bool} (r : RH K H h) (rv : Rp H d v) (t : Tru h d k) : TruV K v H k := by
  cases d with
  | non => cases rv; exact t
  | bl b => cases rv; exact t
  | int i => cases rv; exact t
  | str x => cases rv; exact t
  | tup xs =>
    obtain ⟨a, vs, rfl, e, q⟩ := rv
    refine .inr (.inl ⟨vs, .of e, ?_⟩)
    have := q.len
    rw [show k = !xs.isEmpty from t]
    cases xs <;> cases vs <;> simp_all
  | ref a =>
    cases rv
    obtain ⟨xs, e, ek⟩ := t
    obtain ⟨vs, e1, q⟩ := r.rdl e
    refine .inl ⟨vs, e1, ?_⟩
    have := q.len
    rw [ek]
    cases xs <;> cases vs <;> simp_all
theorem sq_of {x : D} {v : V} {xs : List D} (r : RH K H h) (rv : Rp H x v) (s : Sq h x xs) : ∃ p vs, v = .ref p ∧ (SqL K H p vs ∨ SqT K H p vs) ∧ Rps H xs vs := by
  rcases s with e | ⟨a, e, s⟩
  · subst e
    obtain ⟨a, vs, e1, e2, q⟩ := rv
    exact ⟨a, vs, e1, .inr (.of e2), q⟩
  · subst e
    cases rv
    obtain ⟨vs, e1, q⟩ := r.rdl s
    exact ⟨a, vs, rfl, .inl e1, q⟩
end
end Sr

set_option Elab.async false
set_option linter.all false
set_option maxRecDepth 100000
set_option autoImplicit false
/-! Sr3: operations by values. -/
namespace Sr
open PySem PySem.Spec PyProof.Rows L2

def r1 (K : PySem.W.Frag) (f : D → Hc → Qv → Prop) : V → Hp → VK → Prop := fun x H Q => ∃ d h Qc, Rp H d x ∧ RH K H h ∧ f d h Qc ∧ ∀ d' h' v H', Qc d' h' → Rp H' d' v → RH K H' h' → Ext H H' → Q v H'
def r2 (K : PySem.W.Frag) (f : D → D → Hc → Qv → Prop) : R2 := fun x y H Q => ∃ d e h Qc, Rp H d x ∧ Rp H e y ∧ RH K H h ∧ f d e h Qc ∧ ∀ d' h' v H', Qc d' h' → Rp H' d' v → RH K H' h' → Ext H H' → Q v H'
def rL (K : PySem.W.Frag) (f : List D → Hc → Qv → Prop) : List V → Hp → VK → Prop := fun xs H Q => ∃ ds h Qc, Rps H ds xs ∧ RH K H h ∧ f ds h Qc ∧ ∀ d' h' v H', Qc d' h' → Rp H' d' v → RH K H' h' → Ext H H' → Q v H'
def rM (K : PySem.W.Frag) (f : D → List D → Hc → Qv → Prop) : V → List V → Hp → VK → Prop := fun x xs H Q => ∃ d ds h Qc, Rp H d x ∧ Rps H ds xs ∧ RH K H h ∧ f d ds h Qc ∧ ∀ d' h' v H', Qc d' h' → Rp H' d' v → RH K H' h' → Ext H H' → Q v H'
def opOf : Bin → Operator
  | .add => .Add | .sub => .Sub | .mul => .Mult | .fdiv => .FloorDiv | .mod => .Mod | .pow => .Pow
def cmOf : Cm → CmpOp
  | .eq => .Eq | .ne => .NotEq | .lt => .Lt | .le => .LtE | .gt => .Gt | .ge => .GtE | .isin => .In | .notin => .NotIn | .is => .Is | .isnot => .IsNot

theorem OpR.imp {X : Cx} {f : Value → Value → Sem Value} {r r' : R2} (h : OpR X f r) (i : ∀ x y H Q, r' x y H Q → r x y H Q) : OpR X f r' :=
  fun pins s σ H x y v u Q I a b w => h pins s σ H x y v u Q I a b (i _ _ _ _ w)
theorem Rps.one {H : Hp} {d : D} {xs : List V} (r : Rps H [d] xs) : ∃ v, xs = [v] ∧ Rp H d v := by
  obtain ⟨v, vs, e, r1, r2⟩ := r
  cases r2
  exact ⟨v, e, r1⟩
theorem Rps.two {H : Hp} {d e : D} {xs : List V} (r : Rps H [d, e] xs) : ∃ v u, xs = [v, u] ∧ Rp H d v ∧ Rp H e u := by
  obtain ⟨v, vs, e1, r1, r2⟩ := r
  obtain ⟨u, rfl, r3⟩ := r2.one
  exact ⟨v, u, e1, r1, r3⟩
section
variable {X : Cx}
theorem op_bin (o : Bin) : OpR X (binaryOp (opOf o)) (r2 X.K (wpBin o)) := by
  intro pins s σ H x y v u Q I ra rb w
  obtain ⟨d, e, h, Qc, rd, re, rh, f, k⟩ := w
  cases o with
  | add =>
    cases d with
    | int i =>
      cases e with
      | int j => exact op_add pins s σ H x y v u Q I ra rb ⟨i, j, rd, re, k _ _ _ _ f rfl rh (.refl _)⟩
      | _ => exact f.elim
    | str i =>
      cases e with
      | str j => exact op_add_str pins s σ H x y v u Q I ra rb ⟨i, j, rd, re, f.1, k _ _ _ _ f.2 rfl rh (.refl _)⟩
      | _ => exact f.elim
    | tup xs =>
      cases e with
      | tup ys =>
        obtain ⟨a, vs, ea, e1, q1⟩ := rd
        obtain ⟨b, us, eb, e2, q2⟩ := re
        have l1 := q1.len
        have l2 := q2.len
        refine op_catA pins s σ H x y v u Q I ra rb ⟨a, b, vs, us, ea, eb, .of e1, .of e2, by rw [← l1, ← l2]; exact f.1, fun z => ?_, fun z1 z2 => ?_, fun z1 z2 p np => ?_⟩
        · subst z
          have : xs = [] := List.eq_nil_of_length_eq_zero l1
          subst this
          exact k _ _ _ _ f.2 ⟨b, us, rfl, e2, by simpa using q2⟩ rh (.refl _)
        · subst z2
          have : ys = [] := List.eq_nil_of_length_eq_zero l2
          subst this
          exact k _ _ _ _ f.2 ⟨a, vs, rfl, e1, by simpa using q1⟩ rh (.refl _)
        · exact k _ _ _ _ f.2 ⟨p, _, rfl, upd_same, (q1.app q2).ext (Ext.new np)⟩ (rh.new0 np) (Ext.new np)
      | _ => exact f.elim
    | ref a =>
      cases e with
      | ref b =>
        cases rd
        cases re
        obtain ⟨xs, ys, h1, h2, hl, hp⟩ := f
        obtain ⟨vs, e1, q1⟩ := rh.lst h1
        obtain ⟨us, e2, q2⟩ := rh.lst h2
        refine op_cat pins s σ H _ _ v u Q I ra rb ⟨a, b, vs, us, rfl, rfl, e1, e2, by rw [← q1.len, ← q2.len]; exact hl, fun p np => ?_⟩
        exact k _ _ _ _ (hp p (rh.free np)) rfl (rh.lstNew np (q1.app q2)) (Ext.new np)
      | _ => exact f.elim
    | _ => exact f.elim
  | sub =>
    cases d with
    | int i =>
      cases e with
      | int j => exact op_sub pins s σ H x y v u Q I ra rb ⟨i, j, rd, re, k _ _ _ _ f rfl rh (.refl _)⟩
      | _ => exact f.elim
    | _ => exact f.elim
  | mul =>
    cases d with
    | int i =>
      cases e with
      | int j => exact op_mul pins s σ H x y v u Q I ra rb ⟨i, j, rd, re, f.1, k _ _ _ _ f.2 rfl rh (.refl _)⟩
      | _ => exact f.elim
    | ref a =>
      cases e with
      | int j =>
        cases rd
        obtain ⟨xs, h1, b1, b2, hl, hp⟩ := f
        obtain ⟨vs, e1, q1⟩ := rh.lst h1
        refine op_rep pins s σ H _ _ v u Q I ra rb ⟨a, j, vs, rfl, re, e1, b1, b2, by rw [← q1.len]; exact hl, fun p np => ?_⟩
        exact k _ _ _ _ (hp p (rh.free np)) rfl (rh.lstNew np (q1.rep _)) (Ext.new np)
      | _ => exact f.elim
    | _ => exact f.elim
  | fdiv =>
    cases d with
    | int i =>
      cases e with
      | int j => exact op_fdiv pins s σ H x y v u Q I ra rb ⟨i, j, rd, re, f.1, k _ _ _ _ f.2 rfl rh (.refl _)⟩
      | _ => exact f.elim
    | _ => exact f.elim
  | mod =>
    cases d with
    | int i =>
      cases e with
      | int j => exact op_mod pins s σ H x y v u Q I ra rb ⟨i, j, rd, re, f.1, k _ _ _ _ f.2 rfl rh (.refl _)⟩
      | _ => exact f.elim
    | _ => exact f.elim
  | pow =>
    cases d with
    | int i =>
      cases e with
      | int j => exact op_pow pins s σ H x y v u Q I ra rb ⟨i, j, rd, re, f.1, k _ _ _ _ f.2 rfl rh (.refl _)⟩
      | _ => exact f.elim
    | _ => exact f.elim
theorem iop_aug (o : Bin) : PIp X (opOf o) (r2 X.K (wpAug o)) := by
  intro pins s σ H x y v u Q I ra rb w
  obtain ⟨d, e, h, Qc, rd, re, rh, f, k⟩ := w
  cases o with
  | add =>
    cases d with
    | int i =>
      cases e with
      | int j => exact ip_add pins s σ H x y v u Q I ra rb ⟨i, j, rd, re, k _ _ _ _ f rfl rh (.refl _)⟩
      | _ => exact f.elim
    | _ => exact f.elim
  | sub =>
    cases d with
    | int i =>
      cases e with
      | int j => exact ip_sub pins s σ H x y v u Q I ra rb ⟨i, j, rd, re, k _ _ _ _ f rfl rh (.refl _)⟩
      | _ => exact f.elim
    | _ => exact f.elim
  | mul => cases d <;> exact f.elim
  | fdiv => cases d <;> exact f.elim
  | mod => cases d <;> exact f.elim
  | pow => cases d <;> exact f.elim
/-! ### a dict's keys -/
theorem keyOf_some : ∀ {d : D} {k : Key}, keyOf d = some k → d = keyD k
  | .int i, k, e => by cases e; rfl
  | .str i, k, e => by cases e; rfl
  | .non, _, e => by cases e
  | .bl _, _, e => by cases e
  | .tup _, _, e => by cases e
  | .ref _, _, e => by cases e
theorem keysOf_some : ∀ {ds : List D} {ks : List Key}, keysOf ds = some ks → ds = ks.map keyD
  | [], ks, e => by cases e; rfl
  | d :: ds, ks, e => by
    unfold keysOf at e
    cases h1 : keyOf d with
    | none => rw [h1] at e; cases e
    | some k =>
      cases h2 : keysOf ds with
      | none => rw [h1, h2] at e; cases e
      | some r =>
        rw [h1, h2] at e
        cases e
        rw [keyOf_some h1, keysOf_some h2]; rfl
theorem keyOf_keyD : ∀ k : Key, keyOf (keyD k) = some k
  | .inl _ => rfl
  | .inr _ => rfl
theorem keysOf_keyD : ∀ ks : List Key, keysOf (ks.map keyD) = some ks
  | [] => rfl
  | k :: ks => by
    show (match keyOf (keyD k), keysOf (ks.map keyD) with
      | some k, some ks => some (k :: ks)
      | _, _ => none) = _
    rw [keyOf_keyD, keysOf_keyD ks]
theorem kkOf_one (k : Key) : kkOf (keyD k) = some (.one k) := by cases k <;> rfl
theorem kkOf_tup (ks : List Key) : kkOf (.tup (ks.map keyD)) = some (.tup ks) := by
  show (keysOf (ks.map keyD)).map KK.tup = _
  rw [keysOf_keyD]; rfl
theorem kkOf_kkD : ∀ k : KK, kkOf (kkD k) = some k
  | .one k => kkOf_one k
  | .tup ks => kkOf_tup ks
theorem kkOf_some {d : D} {k : KK} (e : kkOf d = some k) : d = kkD k := by
  cases d with
  | tup xs =>
    have e' : (keysOf xs).map KK.tup = some k := e
    cases h : keysOf xs with
    | none => rw [h] at e'; cases e'
    | some ks =>
      rw [h] at e'; cases e'
      rw [keysOf_some h]; rfl
  | int i => cases e; rfl
  | str i => cases e; rfl
  | non => cases e
  | bl _ => cases e
  | ref _ => cases e
theorem rp_key {H : Hp} {k : Key} {v : V} (r : Rp H (keyD k) v) : v = kV k := by
  cases k with
  | inl i => exact r
  | inr x => exact r
theorem rp_kV {H : Hp} (k : Key) : Rp H (keyD k) (kV k) := by
  cases k <;> rfl
theorem rps_keys {H : Hp} : ∀ {ks : List Key} {vs : List V}, Rps H (ks.map keyD) vs → vs = ks.map kV
  | [], _, r => r
  | k :: ks, _, ⟨v, vs, e, r, q⟩ => by rw [e, rp_key r, rps_keys q]; rfl
theorem rps_kV {H : Hp} : ∀ ks : List Key, Rps H (ks.map keyD) (ks.map kV)
  | [] => rfl
  | k :: ks => .cons (rp_kV k) (rps_kV ks)
/-! ### dicts -/
theorem paired_val1 {H : Hp} (k : Key) : ∀ {kvs : List (D × D)} {ks : List (Key × V)}, Paired (fun p q => p.1 = keyD q.1 ∧ Rp H p.2 q.2) kvs ks →
    (dval kvs (.one k) = none ∧ valV ks k = none) ∨ ∃ d v, dval kvs (.one k) = some d ∧ valV ks k = some v ∧ Rp H d v
  | _, _, .nil => .inl ⟨rfl, rfl⟩
  | p :: kvs, q :: ks, .cons r t => by
    have hk : kkOf p.1 = some (.one q.1) := by rw [r.1]; exact kkOf_one _
    by_cases e : q.1 = k
    · refine .inr ⟨p.2, q.2, ?_, valV_pos e, r.2⟩
      unfold dval
      rw [List.find?_cons_of_pos (by rw [hk, e]; simp)]; rfl
    · have e1 : dval (p :: kvs) (.one k) = dval kvs (.one k) := by
        unfold dval
        rw [List.find?_cons_of_neg (by rw [hk]; simp only [decide_eq_true_eq, Option.some.injEq, KK.one.injEq]; exact e)]
      rw [e1, valV_neg e]
      exact paired_val1 k t
theorem paired_val2 {H : Hp} (k : List Key) : ∀ {kvs : List (D × D)} {ks : List (List Key × V)}, Paired (fun p q => p.1 = .tup (q.1.map keyD) ∧ Rp H p.2 q.2) kvs ks →
    (dval kvs (.tup k) = none ∧ valV ks k = none) ∨ ∃ d v, dval kvs (.tup k) = some d ∧ valV ks k = some v ∧ Rp H d v
  | _, _, .nil => .inl ⟨rfl, rfl⟩
  | p :: kvs, q :: ks, .cons r t => by
    have hk : kkOf p.1 = some (.tup q.1) := by rw [r.1]; exact kkOf_tup _
    by_cases e : q.1 = k
    · refine .inr ⟨p.2, q.2, ?_, valV_pos e, r.2⟩
      unfold dval
      rw [List.find?_cons_of_pos (by rw [hk, e]; simp)]; rfl
    · have e1 : dval (p :: kvs) (.tup k) = dval kvs (.tup k) := by
        unfold dval
        rw [List.find?_cons_of_neg (by rw [hk]; simp only [decide_eq_true_eq, Option.some.injEq, KK.tup.injEq]; exact e)]
      rw [e1, valV_neg e]
      exact paired_val2 k t
end
section
variable {X : Cx} {pins : List (Addr × Obj)} {σ : L2.St} {H : Hp} {s : Shared} {a : Addr} {h : Hc}
theorem swapT (I : Inv X pins σ H s) (e : H a = some (.dK [])) : Inv X pins σ (upd H a (.dT [])) s := by
  obtain ⟨z, y, vs, kv, o, es, ep, e1, e2, e3, e4, e5, e6⟩ := I.hok a _ e
  have hv : vs = [] := by cases kv; rfl
  subst hv
  have he : es.toList = [] := by
    generalize es.toList = l at e5
    cases e5
    rfl
  exact d_write (t' := s.toks) I (by rw [e]; trivial) ⟨rfl, fun _ _ => rfl⟩ ⟨o, e1⟩ ⟨Nat.zero_le _, y, [], .nil, o, es, ep, e1, e2, e3, he, List.nodup_nil⟩
theorem swapK (I : Inv X pins σ H s) (e : H a = some (.dT [])) : Inv X pins σ (upd H a (.dK [])) s := by
  obtain ⟨z, y, vs, kv, o, es, ep, e1, e2, e3, e4, e5⟩ := I.hok a _ e
  have hv : vs = [] := by cases kv; rfl
  subst hv
  have he : es.toList = [] := e4
  have hz : es = #[] := Array.toList_eq_nil_iff.mp he
  subst hz
  exact d_write (t' := s.toks) I (by rw [e]; trivial) ⟨rfl, fun _ _ => rfl⟩ ⟨o, e1⟩ ⟨Nat.zero_le _, y, [], .nil, o, #[], ep, e1, e2, e3, fun e he => by simp at he, .nil, List.nodup_nil⟩
/-- a dict that is asked: the layer's own words (the empty one may be taken as one of the other kind) -/
theorem dget_of {kvs : List (D × D)} {k : KK} {y : V} (I : Inv X pins σ H s) (rh : RH X.K H h) (d : DAt h a kvs k) (ry : Rp H (kkD k) y) :
    ∃ H' o, Inv X pins σ H' s ∧ RH X.K H' h ∧ Ext H H' ∧ DGet H' a y o ∧ ((dval kvs k = none ∧ o = none) ∨ ∃ e v, dval kvs k = some e ∧ o = some v ∧ Rp H' e v) := by
  obtain ⟨hd, hk⟩ := d
  have fin1 : ∀ (ks : List (Key × V)) (kk : Key), Paired (fun p q => p.1 = keyD q.1 ∧ Rp H p.2 q.2) kvs ks → k = .one kk → Rd H a (.dK ks) →
      ∃ H' o, Inv X pins σ H' s ∧ RH X.K H' h ∧ Ext H H' ∧ DGet H' a y o ∧ ((dval kvs k = none ∧ o = none) ∨ ∃ e v, dval kvs k = some e ∧ o = some v ∧ Rp H' e v) := by
    intro ks kk pr ek rd
    subst ek
    refine ⟨H, valV ks kk, I, rh, .refl _, .inl ⟨ks, kk, rd, rp_key ry, rfl⟩, ?_⟩
    rcases paired_val1 kk pr with ⟨h1, h2⟩ | ⟨e, v, h1, h2, h3⟩
    · exact .inl ⟨h1, h2⟩
    · exact .inr ⟨e, v, h1, h2, h3⟩
  have fin2 : ∀ (ks : List (List Key × V)) (kk : List Key), Paired (fun p q => p.1 = .tup (q.1.map keyD) ∧ Rp H p.2 q.2) kvs ks → k = .tup kk → Rd H a (.dT ks) →
      ∃ H' o, Inv X pins σ H' s ∧ RH X.K H' h ∧ Ext H H' ∧ DGet H' a y o ∧ ((dval kvs k = none ∧ o = none) ∨ ∃ e v, dval kvs k = some e ∧ o = some v ∧ Rp H' e v) := by
    intro ks kk pr ek rd
    subst ek
    obtain ⟨b, xs, rfl, hb, rs⟩ := ry
    have ex := rps_keys rs
    subst ex
    refine ⟨H, valV ks kk, I, rh, .refl _, .inr ⟨ks, kk, b, rd, rfl, hb, rfl⟩, ?_⟩
    rcases paired_val2 kk pr with ⟨h1, h2⟩ | ⟨e, v, h1, h2, h3⟩
    · exact .inl ⟨h1, h2⟩
    · exact .inr ⟨e, v, h1, h2, h3⟩
  have emp1 : ∀ {ks : List (Key × V)} {kk : List Key}, k = .tup kk → Paired (fun p q => p.1 = keyD q.1 ∧ Rp H p.2 q.2) kvs ks → kvs = [] ∧ ks = [] := by
    intro ks kk ek pr
    subst ek
    cases pr with
    | nil => exact ⟨rfl, rfl⟩
    | cons r t =>
      rename_i p q l1 l2
      unfold kindB at hk
      rw [List.all_cons, Bool.and_eq_true] at hk
      have := hk.1
      rw [r.1] at this
      cases hq : q.1 <;> rw [hq] at this <;> cases this
  have emp2 : ∀ {ks : List (List Key × V)} {kk : Key}, k = .one kk → Paired (fun p q => p.1 = .tup (q.1.map keyD) ∧ Rp H p.2 q.2) kvs ks → kvs = [] ∧ ks = [] := by
    intro ks kk ek pr
    subst ek
    cases pr with
    | nil => exact ⟨rfl, rfl⟩
    | cons r t =>
      rename_i p q l1 l2
      unfold kindB at hk
      rw [List.all_cons, Bool.and_eq_true] at hk
      have := hk.1
      rw [r.1] at this
      cases this
  have ry0 := ry
  rcases hd with hd | ⟨hd, hne⟩
  · rcases rh a _ hd with ⟨ks, e1, pr⟩ | ⟨ks, e1, pr⟩
    · cases k with
      | one kk => exact fin1 ks kk pr rfl (.inl e1)
      | tup kk =>
        obtain ⟨z1, z2⟩ := emp1 rfl pr
        subst z1 z2
        have mu : Mut (H a) := by rw [e1]; trivial
        have rh' : RH X.K (upd H a (.dT [])) h := fun b o e => by
          by_cases zb : b = a
          · subst zb
            rw [hd] at e; cases e
            exact .inr ⟨[], upd_same, .nil⟩
          · exact (rh b o e).keep (Ext.mut mu) (upd_ne zb)
        obtain ⟨b, xs, rfl, hb, rs⟩ := ry.ext (Ext.mut (o := .dT []) mu)
        have ex := rps_keys rs
        subst ex
        exact ⟨upd H a (.dT []), none, swapT I e1, rh', Ext.mut mu, .inr ⟨[], kk, b, .inl upd_same, rfl, hb, rfl⟩, .inl ⟨rfl, rfl⟩⟩
    · cases k with
      | tup kk => exact fin2 ks kk pr rfl (.inl e1)
      | one kk =>
        obtain ⟨z1, z2⟩ := emp2 rfl pr
        subst z1 z2
        have mu : Mut (H a) := by rw [e1]; trivial
        have rh' : RH X.K (upd H a (.dK [])) h := fun b o e => by
          by_cases zb : b = a
          · subst zb
            rw [hd] at e; cases e
            exact .inl ⟨[], upd_same, .nil⟩
          · exact (rh b o e).keep (Ext.mut mu) (upd_ne zb)
        exact ⟨upd H a (.dK []), none, swapK I e1, rh', Ext.mut mu, .inl ⟨[], kk, .inl upd_same, rp_key ry0, rfl⟩, .inl ⟨rfl, rfl⟩⟩
  · rcases rh a _ hd with ⟨ks, ⟨ob, e1⟩, pr⟩ | ⟨ks, ⟨ob, e1⟩, pr⟩
    · cases k with
      | one kk => exact fin1 ks kk pr rfl (.inr ⟨ob, e1⟩)
      | tup kk => exact (hne (emp1 rfl pr).1).elim
    · cases k with
      | tup kk => exact fin2 ks kk pr rfl (.inr ⟨ob, e1⟩)
      | one kk => exact (hne (emp2 rfl pr).1).elim
end
end Sr

set_option Elab.async false
set_option linter.all false
set_option maxRecDepth 100000
set_option autoImplicit false
/-! Sr4: operations by values, further. -/
namespace Sr
open PySem PySem.Spec PyProof.Rows L2
/-! ### a dict written -/
section
variable {H : Hp}
theorem paired_any {β : Type} {f : β → D} {g : β → KK} [DecidableEq β] (hf : ∀ b, kkOf (f b) = some (g b)) (hg : ∀ a b, g a = g b → a = b) (k : β) : ∀ {kvs : List (D × D)} {ks : List (β × V)}, Paired (fun p q => p.1 = f q.1 ∧ Rp H p.2 q.2) kvs ks →
    (kvs.any fun p => decide (kkOf p.1 = some (g k))) = ks.any fun q => decide (q.1 = k)
  | _, _, .nil => rfl
  | p :: kvs, q :: ks, .cons r t => by
    rw [List.any_cons, List.any_cons, paired_any hf hg k t]
    congr 1
    rw [r.1, hf]
    by_cases e : q.1 = k
    · subst e; simp
    · have : ¬ (some (g q.1) = some (g k)) := fun z => e (hg _ _ (Option.some.inj z))
      rw [decide_eq_false this, decide_eq_false e]
theorem paired_map {β : Type} {f : β → D} {g : β → KK} [DecidableEq β] (hf : ∀ b, kkOf (f b) = some (g b)) (hg : ∀ a b, g a = g b → a = b) (k : β) {d : D} {v : V} (r0 : Rp H d v) : ∀ {kvs : List (D × D)} {ks : List (β × V)}, Paired (fun p q => p.1 = f q.1 ∧ Rp H p.2 q.2) kvs ks →
    Paired (fun p q => p.1 = f q.1 ∧ Rp H p.2 q.2) (kvs.map fun p => if kkOf p.1 = some (g k) then (p.1, d) else p) (ks.map fun q => if q.1 = k then (q.1, v) else q)
  | _, _, .nil => .nil
  | p :: kvs, q :: ks, .cons r t => by
    refine .cons ?_ (paired_map hf hg k r0 t)
    dsimp only
    by_cases e : q.1 = k
    · rw [if_pos e, if_pos (by rw [r.1, hf, e])]
      exact ⟨r.1, r0⟩
    · rw [if_neg e, if_neg (by rw [r.1, hf]; exact fun z => e (hg _ _ (Option.some.inj z)))]
      exact r
theorem paired_app {β : Type} {F : (D × D) → (β × V) → Prop} : ∀ {l1 l2 : List (D × D)} {m1 m2 : List (β × V)}, Paired F l1 m1 → Paired F l2 m2 → Paired F (l1 ++ l2) (m1 ++ m2)
  | _, _, _, _, .nil, q => q
  | _, _, _, _, .cons r t, q => .cons r (paired_app t q)
theorem paired_len {β : Type} {F : (D × D) → (β × V) → Prop} : ∀ {l1 : List (D × D)} {m1 : List (β × V)}, Paired F l1 m1 → l1.length = m1.length
  | _, _, .nil => rfl
  | _, _, .cons r t => congrArg Nat.succ (paired_len t)
theorem paired_put {β : Type} {f : β → D} {g : β → KK} [DecidableEq β] (hf : ∀ b, kkOf (f b) = some (g b)) (hg : ∀ a b, g a = g b → a = b) (hk : ∀ b, kkD (g b) = f b) (k : β) {d : D} {v : V} (r0 : Rp H d v) {kvs : List (D × D)} {ks : List (β × V)} (p : Paired (fun p q => p.1 = f q.1 ∧ Rp H p.2 q.2) kvs ks) :
    Paired (fun p q => p.1 = f q.1 ∧ Rp H p.2 q.2) (dput kvs (g k) d) (putK ks k v) := by
  unfold dput putK
  rw [paired_any hf hg k p]
  split
  · exact paired_map hf hg k r0 p
  · exact paired_app p (.cons ⟨hk k, r0⟩ .nil)
end
section
variable {X : Cx} {pins : List (Addr × Obj)} {σ : L2.St} {H : Hp} {s : Shared} {a : Addr} {h : Hc}
theorem dput_of {kvs : List (D × D)} {k : KK} {y v : V} {d : D} (I : Inv X pins σ H s) (rh : RH X.K H h) (hd : h a = some (.dic kvs)) (hk : kindB kvs k = true) (hl : kvs.length < sizeLine) (ry : Rp H (kkD k) y) (rv : Rp H d v) :
    ∃ H' H2, Inv X pins σ H' s ∧ DPut H' a y v H2 ∧ RH X.K H2 (hset h a (.dic (dput kvs k d))) ∧ Ext H H2 := by
  -- the dict is of the key's kind, or empty
  have go1 : ∀ (H1 : Hp) (ks : List (Key × V)) (kk : Key), Inv X pins σ H1 s → RH X.K H1 h → Ext H H1 → H1 a = some (.dK ks) → Paired (fun p q => p.1 = keyD q.1 ∧ Rp H1 p.2 q.2) kvs ks → k = .one kk →
      ∃ H' H2, Inv X pins σ H' s ∧ DPut H' a y v H2 ∧ RH X.K H2 (hset h a (.dic (dput kvs k d))) ∧ Ext H H2 := by
    intro H1 ks kk I1 rh1 x1 e1 pr ek
    subst ek
    have mu : Mut (H1 a) := by rw [e1]; trivial
    have ey : y = kV kk := rp_key ry
    subst ey
    refine ⟨H1, _, I1, .inl ⟨ks, kk, e1, rfl, by rw [← paired_len pr]; exact hl, rfl⟩, rh1.upd (Ext.mut mu) (.inl ⟨_, upd_same, ?_⟩), x1.trans (Ext.mut mu)⟩
    exact paired_ext (Ext.mut mu) (paired_put (f := keyD) (g := KK.one) kkOf_one (fun a b e => by cases e; rfl) (fun _ => rfl) kk (rv.ext x1) pr)
  have go2 : ∀ (H1 : Hp) (ks : List (List Key × V)) (kk : List Key), Inv X pins σ H1 s → RH X.K H1 h → Ext H H1 → H1 a = some (.dT ks) → Paired (fun p q => p.1 = .tup (q.1.map keyD) ∧ Rp H1 p.2 q.2) kvs ks → k = .tup kk →
      ∃ H' H2, Inv X pins σ H' s ∧ DPut H' a y v H2 ∧ RH X.K H2 (hset h a (.dic (dput kvs k d))) ∧ Ext H H2 := by
    intro H1 ks kk I1 rh1 x1 e1 pr ek
    subst ek
    have mu : Mut (H1 a) := by rw [e1]; trivial
    obtain ⟨b, xs, rfl, hb, rs⟩ := ry.ext x1
    have ex := rps_keys rs
    subst ex
    refine ⟨H1, _, I1, .inr ⟨ks, kk, b, e1, rfl, hb, by rw [← paired_len pr]; exact hl, rfl⟩, rh1.upd (Ext.mut mu) (.inr ⟨_, upd_same, ?_⟩), x1.trans (Ext.mut mu)⟩
    exact paired_ext (f := fun (z : List Key) => D.tup (z.map keyD)) (Ext.mut mu) (paired_put (f := fun (z : List Key) => D.tup (z.map keyD)) (g := KK.tup) kkOf_tup (fun a b e => by cases e; rfl) (fun _ => rfl) kk (rv.ext x1) pr)
  rcases rh a _ hd with ⟨ks, e1, pr⟩ | ⟨ks, e1, pr⟩
  · cases k with
    | one kk => exact go1 H ks kk I rh (.refl _) e1 pr rfl
    | tup kk =>
      have mu : Mut (H a) := by rw [e1]; trivial
      cases pr with
      | nil =>
        refine go2 (upd H a (.dT [])) [] kk (swapT I e1) (fun b o e => ?_) (Ext.mut mu) upd_same .nil rfl
        by_cases zb : b = a
        · subst zb
          rw [hd] at e; cases e
          exact .inr ⟨[], upd_same, .nil⟩
        · exact (rh b o e).keep (Ext.mut mu) (upd_ne zb)
      | cons r t =>
        rename_i p q l1 l2
        unfold kindB at hk
        rw [List.all_cons, Bool.and_eq_true] at hk
        have := hk.1
        rw [r.1] at this
        cases hq : q.1 <;> rw [hq] at this <;> cases this
  · cases k with
    | tup kk => exact go2 H ks kk I rh (.refl _) e1 pr rfl
    | one kk =>
      have mu : Mut (H a) := by rw [e1]; trivial
      cases pr with
      | nil =>
        refine go1 (upd H a (.dK [])) [] kk (swapK I e1) (fun b o e => ?_) (Ext.mut mu) upd_same .nil rfl
        by_cases zb : b = a
        · subst zb
          rw [hd] at e; cases e
          exact .inl ⟨[], upd_same, .nil⟩
        · exact (rh b o e).keep (Ext.mut mu) (upd_ne zb)
      | cons r t =>
        rename_i p q l1 l2
        unfold kindB at hk
        rw [List.all_cons, Bool.and_eq_true] at hk
        have := hk.1
        rw [r.1] at this
        cases this
end

/-! ### comparisons -/
section
variable {X : Cx}
theorem op_in_D (hu : X.A.units + 200 < cLine) : OpR X (compareOp .In) (r2 X.K fun x y h Q => ∃ b, InD h x y b ∧ Q (.bl b) h) := by
  intro pins s σ H x y v u Q I ra rb w
  obtain ⟨d, e, h, Qc, rd, re, rh, ⟨b, f, q⟩, k⟩ := w
  cases e with
  | tup ys =>
    obtain ⟨f1, f2, f3⟩ := f
    obtain ⟨a, vs, ea, e1, rs⟩ := re
    refine op_in_seq pins s σ H x y v u Q I ra rb ⟨a, vs, ea, .inr (.of e1), flat_of rd f1, flats_of rs f2, ?_⟩
    rw [if_neg Bool.false_ne_true, inF_of rd f1 rs f2, ← f3]
    exact k _ _ _ _ q rfl rh (.refl _)
  | str z =>
    obtain ⟨c, f1, f2⟩ := f
    subst f1
    refine op_in_sign pins s σ H x y v u Q I ra rb ⟨c, z, rd, re, ?_⟩
    rw [← f2]
    exact k _ _ _ _ q rfl rh (.refl _)
  | ref a =>
    have ey : y = .ref a := re
    rcases f with ⟨ys, f0, f1, f2, f3⟩ | ⟨ys, p, ps, f0, f1, f2, f3, f4, f5⟩ | ⟨kvs, kk, f0, f1, f2⟩
    · obtain ⟨vs, e1, rs⟩ := rh.rdl f0
      refine op_in_seq pins s σ H x y v u Q I ra rb ⟨a, vs, ey, .inl e1, flat_of rd f1, flats_of rs f2, ?_⟩
      rw [if_neg Bool.false_ne_true, inF_of rd f1 rs f2, ← f3]
      exact k _ _ _ _ q rfl rh (.refl _)
    · refine op_inD (by omega) pins s σ H x y v u Q I ra rb ⟨p, ps, f1.dp rh rd, ?_, f3, f4, ?_⟩
      · exact PdOf.dp rh (.lst f0 f2) re
      · rw [← f5]
        exact k _ _ _ _ q rfl rh (.refl _)
    · rw [kkOf_some f1] at rd
      obtain ⟨H', o, I', rh', x', g, hv⟩ := dget_of I rh f0 rd
      subst ey
      cases rb
      refine d_in (by omega) I' g ra fun s' I2 => ⟨.bl b, H', I2, ?_, k _ _ _ _ q rfl rh' x'⟩
      rcases hv with ⟨h1, h2⟩ | ⟨e, v, h1, h2, h3⟩
      · rw [f2, h1, h2]; rfl
      · rw [f2, h1, h2]; rfl
  | _ => exact f.elim
theorem op_notin_D (hu : X.A.units + 200 < cLine) : OpR X (compareOp .NotIn) (r2 X.K fun x y h Q => ∃ b, InD h x y b ∧ Q (.bl (!b)) h) := by
  intro pins s σ H x y v u Q I ra rb w
  obtain ⟨d, e, h, Qc, rd, re, rh, ⟨b, f, q⟩, k⟩ := w
  cases e with
  | tup ys =>
    obtain ⟨f1, f2, f3⟩ := f
    obtain ⟨a, vs, ea, e1, rs⟩ := re
    refine op_notIn_seq pins s σ H x y v u Q I ra rb ⟨a, vs, ea, .inr (.of e1), flat_of rd f1, flats_of rs f2, ?_⟩
    rw [if_pos rfl, inF_of rd f1 rs f2, ← f3]
    exact k _ _ _ _ q rfl rh (.refl _)
  | str z =>
    obtain ⟨c, f1, f2⟩ := f
    subst f1
    refine op_notIn_sign pins s σ H x y v u Q I ra rb ⟨c, z, rd, re, ?_⟩
    rw [← f2]
    exact k _ _ _ _ q rfl rh (.refl _)
  | ref a =>
    have ey : y = .ref a := re
    rcases f with ⟨ys, f0, f1, f2, f3⟩ | ⟨ys, p, ps, f0, f1, f2, f3, f4, f5⟩ | ⟨kvs, kk, f0, f1, f2⟩
    · obtain ⟨vs, e1, rs⟩ := rh.rdl f0
      refine op_notIn_seq pins s σ H x y v u Q I ra rb ⟨a, vs, ey, .inl e1, flat_of rd f1, flats_of rs f2, ?_⟩
      rw [if_pos rfl, inF_of rd f1 rs f2, ← f3]
      exact k _ _ _ _ q rfl rh (.refl _)
    · refine op_notInD (by omega) pins s σ H x y v u Q I ra rb ⟨p, ps, f1.dp rh rd, ?_, f3, f4, ?_⟩
      · exact PdOf.dp rh (.lst f0 f2) re
      · rw [← f5]
        exact k _ _ _ _ q rfl rh (.refl _)
    · rw [kkOf_some f1] at rd
      obtain ⟨H', o, I', rh', x', g, hv⟩ := dget_of I rh f0 rd
      subst ey
      cases rb
      refine d_notIn (by omega) I' g ra fun s' I2 => ⟨.bl (!b), H', I2, ?_, k _ _ _ _ q rfl rh' x'⟩
      rcases hv with ⟨h1, h2⟩ | ⟨e, v, h1, h2, h3⟩
      · rw [f2, h1, h2]; rfl
      · rw [f2, h1, h2]; rfl
  | _ => exact f.elim
theorem isnon_of {H : Hp} {d : D} {x : V} (r : Rp H d x) : decide (x = V.non) = d.isN := by
  cases d with
  | tup xs => obtain ⟨a, vs, e, _⟩ := r; subst e; rfl
  | _ => cases r; rfl
theorem op_cm (hu : X.A.units + 200 < cLine) (o : Cm) : OpR X (compareOp (cmOf o)) (r2 X.K (wpCm o)) := by
  cases o with
  | isin => exact op_in_D hu
  | notin => exact op_notin_D hu
  | eq =>
    intro pins s σ H x y v u Q I ra rb w
    obtain ⟨d, e, h, Qc, rd, re, rh, ⟨p, q, f1, f2, f3, f4, f⟩, k⟩ := w
    exact op_eqD (by omega) pins s σ H x y v u Q I ra rb ⟨p, q, f1.dp rh rd, f2.dp rh re, f3, f4, k _ _ _ _ f rfl rh (.refl _)⟩
  | ne =>
    intro pins s σ H x y v u Q I ra rb w
    obtain ⟨d, e, h, Qc, rd, re, rh, ⟨p, q, f1, f2, f3, f4, f⟩, k⟩ := w
    exact op_neD (by omega) pins s σ H x y v u Q I ra rb ⟨p, q, f1.dp rh rd, f2.dp rh re, f3, f4, k _ _ _ _ f rfl rh (.refl _)⟩
  | lt =>
    intro pins s σ H x y v u Q I ra rb w
    obtain ⟨d, e, h, Qc, rd, re, rh, ⟨i, j, rfl, rfl, f⟩, k⟩ := w
    exact op_lt pins s σ H x y v u Q I ra rb ⟨i, j, rd, re, k _ _ _ _ f rfl rh (.refl _)⟩
  | le =>
    intro pins s σ H x y v u Q I ra rb w
    obtain ⟨d, e, h, Qc, rd, re, rh, ⟨i, j, rfl, rfl, f⟩, k⟩ := w
    exact op_le pins s σ H x y v u Q I ra rb ⟨i, j, rd, re, k _ _ _ _ f rfl rh (.refl _)⟩
  | gt =>
    intro pins s σ H x y v u Q I ra rb w
    obtain ⟨d, e, h, Qc, rd, re, rh, ⟨i, j, rfl, rfl, f⟩, k⟩ := w
    exact op_gt pins s σ H x y v u Q I ra rb ⟨i, j, rd, re, k _ _ _ _ f rfl rh (.refl _)⟩
  | ge =>
    intro pins s σ H x y v u Q I ra rb w
    obtain ⟨d, e, h, Qc, rd, re, rh, ⟨i, j, rfl, rfl, f⟩, k⟩ := w
    exact op_ge pins s σ H x y v u Q I ra rb ⟨i, j, rd, re, k _ _ _ _ f rfl rh (.refl _)⟩
  | is =>
    intro pins s σ H x y v u Q I ra rb w
    obtain ⟨d, e, h, Qc, rd, re, rh, f, k⟩ := w
    rcases f with ⟨rfl, f⟩ | ⟨a, b, rfl, rfl, f⟩
    · refine op_isN pins s σ H x y v u Q I ra rb ⟨re, ?_⟩
      rw [isnon_of rd]
      exact k _ _ _ _ f rfl rh (.refl _)
    · exact op_isBl pins s σ H x y v u Q I ra rb ⟨a, b, rd, re, k _ _ _ _ f rfl rh (.refl _)⟩
  | isnot =>
    intro pins s σ H x y v u Q I ra rb w
    obtain ⟨d, e, h, Qc, rd, re, rh, f, k⟩ := w
    rcases f with ⟨rfl, f⟩ | ⟨a, b, rfl, rfl, f⟩
    · refine op_notN pins s σ H x y v u Q I ra rb ⟨re, ?_⟩
      rw [isnon_of rd]
      exact k _ _ _ _ f rfl rh (.refl _)
    · exact op_notBl pins s σ H x y v u Q I ra rb ⟨a, b, rd, re, k _ _ _ _ f rfl rh (.refl _)⟩
end
end Sr

set_option Elab.async false
set_option linter.all false
set_option maxRecDepth 100000
set_option autoImplicit false
/-! Sr5: subscripts, slices, built-in functions and methods by values. -/
namespace Sr
open PySem PySem.Spec PyProof.Rows L2
section
variable {X : Cx}
/-- a dict asked for a place, whatever comes of it -/
theorem sub_dict {prog : Program} {w : World} {A : Around} {E : Value → Shared → Prop} {st : Shared} {vx sx : Expr} {o i : Value} {Q : Value → Shared → Prop} (ty : st.TypeIs o "dict")
    (hs : subscripted sx false o i = operate [o, i] (getItem o i)) (g : wpAny (model prog w) A (getItem o i) Q E st) : wpAny (model prog w) A (subscriptTail vx sx o i) Q E st := by
  have last : wpAny (model prog w) A (subscripted sx false o i) (fun r s3 => wpAny (model prog w) A (letTemporaryGo vx o r >>= fun _ => pure r) Q E s3) E st :=
    hs ▸ wpAny_operating (thn g fun r s3 q => wpAny_bind (wpAny_letTemporaryGo (wpAny_pure q)))
  unfold subscriptTail
  rw [getitemInPython_of_ne ty.not_modules]
  refine wpAny_bind (wpAny_bind (wpAny_specialOf ty PySem.F.slot_dict_getitem.lookup ?_))
  first
    | exact wpAny_pure (wpAny_bind last)
    | exact wpAny_bind (wpAny_pure (wpAny_bind last))
    | exact wpAny_bind last
theorem Rps.atI {H : Hp} {ds : List D} {vs : List V} {k : Int} {d : D} (r : Rps H ds vs) (e : atI ds k = some d) : ∃ v, L2.atI vs k = some v ∧ Rp H d v := by
  unfold L2.atI at *
  rw [r.len] at e
  cases q : ixN vs.length k with
  | none => rw [q] at e; cases e
  | some j =>
    rw [q] at e
    obtain ⟨v, e1, r1⟩ := r.get (i := j) (d := d) e
    exact ⟨v, e1, r1⟩
theorem ix_any (hu : X.A.units + 200 < cLine) : IxR X (r2 X.K wpIx) := by
  intro vx sx pins s σ H x y v u Q I ra rb w hs
  obtain ⟨d, e, h, Qc, rd, re, rh, f, k⟩ := w
  cases d with
  | tup ds =>
    obtain ⟨n, z, rfl, f1, f2⟩ := f
    obtain ⟨a, vs, ea, e1, rs⟩ := rd
    obtain ⟨zv, e2, rz⟩ := rs.atI f1
    exact ix_tup vx sx pins s σ H x y v u Q I ra rb ⟨a, vs, n, zv, ea, re, .of e1, e2, k _ _ _ _ f2 rz rh (.refl _)⟩ hs
  | str z =>
    obtain ⟨n, c, rfl, f1, f2, f3⟩ := f
    exact ix_str vx sx pins s σ H x y v u Q I ra rb ⟨z, n, c, rd, re, f1, f2, k _ _ _ _ f3 rfl rh (.refl _)⟩ hs
  | ref a =>
    have ex : x = .ref a := rd
    rcases f with ⟨ds, n, z, f0, rfl, f1, f2⟩ | ⟨kvs, kk, z, f0, f1, f2, f3⟩
    · obtain ⟨vs, e1, rs⟩ := rh.rdl f0
      obtain ⟨zv, e2, rz⟩ := rs.atI f1
      exact ix_list vx sx pins s σ H x y v u Q I ra rb ⟨a, vs, n, zv, ex, re, e1, e2, k _ _ _ _ f2 rz rh (.refl _)⟩ hs
    · rw [kkOf_some f1] at re
      obtain ⟨H', o, I', rh', x', g, hv⟩ := dget_of I rh f0 re
      subst ex
      cases ra
      rcases hv with ⟨h1, h2⟩ | ⟨e, zv, h1, h2, h3⟩
      · rw [f2] at h1; cases h1
      · subst h2
        rw [f2] at h1
        cases h1
        exact sub_dict (dict_typeIs I' g) hs (d_getItem (by omega) I' g rb fun w' s' I2 rw' => ⟨zv, H', I2, rw', k _ _ _ _ f3 h3 rh' x'⟩)
  | _ => exact f.elim
/-! ### slices -/
def rSl (K : PySem.W.Frag) : V → Option Int → Option Int → Hp → VK → Prop := fun x lo hi H Q => ∃ d h Qc, Rp H d x ∧ RH K H h ∧ wpSl d lo hi h Qc ∧ ∀ d' h' v H', Qc d' h' → Rp H' d' v → RH K H' h' → Ext H H' → Q v H'
theorem Rps.cut {H : Hp} {ds : List D} {vs : List V} (r : Rps H ds vs) (lo hi : Option Int) : Rps H (cutD ds lo hi) (cutV vs lo hi) := by
  unfold cutD cutV
  rw [r.len]
  exact (r.drop _).take _
theorem cut_whole {ds : List D} {lo hi : Option Int} (z : HT.sIx ds.length 0 lo = 0 ∧ HT.sIx ds.length ds.length hi = ds.length) : cutD ds lo hi = ds := by
  unfold cutD
  rw [z.1, z.2]
  simp
theorem sl_any : SlR X (rSl X.K) := by
  intro pins s σ H x v vl vu lo hi sl Q I rx hsl pl pu w
  obtain ⟨d, h, Qc, rd, rh, f, k⟩ := w
  cases d with
  | tup ds =>
    obtain ⟨a, vs, ea, e1, rs⟩ := rd
    refine sl_tupA pins s σ H x v vl vu lo hi sl Q I rx hsl pl pu ⟨a, vs, ea, .of e1, fun z => ?_, fun z p np => ?_⟩
    · rw [← rs.len] at z
      have f' : Qc (.tup (cutD ds lo hi)) h := f
      rw [cut_whole z] at f'
      exact k _ _ _ _ f' ⟨a, vs, rfl, e1, rs⟩ rh (.refl _)
    · exact k _ _ _ _ f ⟨p, _, rfl, upd_same, (rs.cut lo hi).ext (Ext.new np)⟩ (rh.new0 np) (Ext.new np)
  | str z => exact sl_str pins s σ H x v vl vu lo hi sl Q I rx hsl pl pu ⟨z, rd, f.1, k _ _ _ _ f.2 rfl rh (.refl _)⟩
  | ref a =>
    have ex : x = .ref a := rd
    obtain ⟨ds, f0, f1⟩ := f
    obtain ⟨vs, e1, rs⟩ := rh.rdl f0
    refine sl_list pins s σ H x v vl vu lo hi sl Q I rx hsl pl pu ⟨a, vs, ex, e1, fun p np => ?_⟩
    exact k _ _ _ _ (f1 p (rh.free np)) rfl (rh.lstNew np (rs.cut lo hi)) (Ext.new np)
  | _ => exact f.elim
/-! ### built-in functions -/
theorem CallR.imp {f : Value} {r r' : List V → Hp → VK → Prop} (h : CallR X f r) (i : ∀ xs H Q, r' xs H Q → r xs H Q) : CallR X f r' :=
  fun pins s σ H xs us Q I rv w => h pins s σ H xs us Q I rv (i _ _ _ w)
theorem fg_out {K : PySem.W.Frag} {H H' : Hp} {h : Hc} {Qc : Qv} {Q : VK} {d : D} {v : V} (k : ∀ d' h' v H', Qc d' h' → Rp H' d' v → RH K H' h' → Ext H H' → Q v H') (q : Fg Qc d h) (r : Rp H' d v) (rh : RH K H' h) (x : Ext H H') : Q v H' := by
  obtain ⟨h', s, q⟩ := q
  exact k _ _ _ _ q r (rh.sub s) x
theorem cb_len : CallR X (.builtin "len") (rL X.K (wpBi .len)) := by
  intro pins s σ H xs us Q I rv w
  obtain ⟨ds, h, Qc, rd, rh, ⟨x, rfl, f⟩, k⟩ := w
  obtain ⟨v, rfl, r1⟩ := rd.one
  rcases f with ⟨z, rfl, f1, f2⟩ | ⟨ys, f1, f2⟩
  · exact call_len_str pins s σ H _ us Q I rv ⟨z, by rw [show v = .str z from r1], f1, k _ _ _ _ f2 rfl rh (.refl _)⟩
  · obtain ⟨p, vs, rfl, hs, rs⟩ := sq_of rh r1 f1
    refine call_len_seq pins s σ H _ us Q I rv ⟨p, vs, rfl, hs, ?_⟩
    rw [← rs.len]
    exact fg_out k f2 rfl rh (.refl _)
theorem cb_list : CallR X (.type "list") (rL X.K (wpBi .list)) := by
  intro pins s σ H xs us Q I rv w
  obtain ⟨ds, h, Qc, rd, rh, ⟨x, ys, rfl, f1, f2⟩, k⟩ := w
  obtain ⟨v, rfl, r1⟩ := rd.one
  obtain ⟨p, vs, rfl, hs, rs⟩ := sq_of rh r1 f1
  exact call_list_of pins s σ H _ us Q I rv ⟨p, vs, rfl, hs, fun l nl => fg_out k (f2 l (rh.free nl)) rfl (rh.lstNew nl rs) (Ext.new nl)⟩
theorem cb_tuple : CallR X (.type "tuple") (rL X.K (wpBi .tuple)) := by
  intro pins s σ H xs us Q I rv w
  obtain ⟨ds, h, Qc, rd, rh, ⟨x, ys, rfl, f1, f2⟩, k⟩ := w
  obtain ⟨v, rfl, r1⟩ := rd.one
  rcases f1 with rfl | ⟨a, rfl, f1⟩
  · obtain ⟨a, vs, rfl, e1, rs⟩ := r1
    exact call_tuple_of pins s σ H _ us Q I rv ⟨a, vs, rfl, .inr ⟨.of e1, fg_out k f2 ⟨a, vs, rfl, e1, rs⟩ rh (.refl _)⟩⟩
  · cases r1
    obtain ⟨vs, e1, rs⟩ := rh.rdl f1
    exact call_tuple_of pins s σ H _ us Q I rv ⟨a, vs, rfl, .inl ⟨e1, fun l nl => fg_out k f2 ⟨l, vs, rfl, upd_same, rs.ext (Ext.new nl)⟩ (rh.new0 nl) (Ext.new nl)⟩⟩
theorem cb_max (hc : X.calm = true) : CallR X (.builtin "max") (rL X.K (wpBi .max)) := by
  intro pins s σ H xs us Q I rv w
  obtain ⟨ds, h, Qc, rd, rh, f, k⟩ := w
  rcases f with ⟨i, j, rfl, f⟩ | ⟨a, ns, rfl, f1, f2, f3⟩
  · obtain ⟨v, u, rfl, r1, r2⟩ := rd.two
    exact call_max2 hc pins s σ H _ us Q I rv ⟨i, j, by rw [show v = .int i from r1, show u = .int j from r2], k _ _ _ _ f rfl rh (.refl _)⟩
  · obtain ⟨v, rfl, r1⟩ := rd.one
    obtain ⟨vs, e1, rs⟩ := rh.rdl f1
    rw [rs.ints] at e1
    exact cr_max hc pins s σ H _ us Q I rv ⟨a, ns, by rw [show v = .ref a from r1], e1, f2, fun m m1 m2 => fg_out k (f3 m m1 m2) rfl rh (.refl _)⟩
theorem cb_min (hc : X.calm = true) : CallR X (.builtin "min") (rL X.K (wpBi .min)) := by
  intro pins s σ H xs us Q I rv w
  obtain ⟨ds, h, Qc, rd, rh, f, k⟩ := w
  rcases f with ⟨i, j, rfl, f⟩ | ⟨a, ns, rfl, f1, f2, f3⟩
  · obtain ⟨v, u, rfl, r1, r2⟩ := rd.two
    exact call_min2 hc pins s σ H _ us Q I rv ⟨i, j, by rw [show v = .int i from r1, show u = .int j from r2], k _ _ _ _ f rfl rh (.refl _)⟩
  · obtain ⟨v, rfl, r1⟩ := rd.one
    obtain ⟨vs, e1, rs⟩ := rh.rdl f1
    rw [rs.ints] at e1
    exact cr_min hc pins s σ H _ us Q I rv ⟨a, ns, by rw [show v = .ref a from r1], e1, f2, fun m m1 m2 => fg_out k (f3 m m1 m2) rfl rh (.refl _)⟩
theorem cb_int : CallR X (.type "int") (rL X.K (wpBi .int)) := by
  intro pins s σ H xs us Q I rv w
  obtain ⟨ds, h, Qc, rd, rh, f, k⟩ := w
  rcases f with ⟨i, rfl, f⟩ | ⟨b, rfl, f⟩ | ⟨z, n, rfl, f1, f2, f3⟩
  · obtain ⟨v, rfl, r1⟩ := rd.one
    exact call_int1 pins s σ H _ us Q I rv (.inl ⟨i, by rw [show v = .int i from r1], k _ _ _ _ f rfl rh (.refl _)⟩)
  · obtain ⟨v, rfl, r1⟩ := rd.one
    exact call_int1 pins s σ H _ us Q I rv (.inr ⟨b, by rw [show v = .bl b from r1], k _ _ _ _ f rfl rh (.refl _)⟩)
  · obtain ⟨v, rfl, r1⟩ := rd.one
    exact call_int_str pins s σ H _ us Q I rv ⟨z, n, by rw [show v = .str z from r1], f1, f2, k _ _ _ _ f3 rfl rh (.refl _)⟩
theorem cb_str : CallR X (.type "str") (rL X.K (wpBi .str)) := by
  intro pins s σ H xs us Q I rv w
  obtain ⟨ds, h, Qc, rd, rh, ⟨i, rfl, f1, f2⟩, k⟩ := w
  obtain ⟨v, rfl, r1⟩ := rd.one
  exact call_str_int pins s σ H _ us Q I rv ⟨i, by rw [show v = .int i from r1], f1, k _ _ _ _ f2 rfl rh (.refl _)⟩
theorem cb_abs : CallR X (.builtin "abs") (rL X.K (wpBi .abs)) := by
  intro pins s σ H xs us Q I rv w
  obtain ⟨ds, h, Qc, rd, rh, ⟨i, rfl, f⟩, k⟩ := w
  obtain ⟨v, rfl, r1⟩ := rd.one
  exact call_abs pins s σ H _ us Q I rv ⟨i, by rw [show v = .int i from r1], k _ _ _ _ f rfl rh (.refl _)⟩
theorem cb_divmod : CallR X (.builtin "divmod") (rL X.K (wpBi .divmod)) := by
  intro pins s σ H xs us Q I rv w
  obtain ⟨ds, h, Qc, rd, rh, ⟨i, j, rfl, f1, f⟩, k⟩ := w
  obtain ⟨v, u, rfl, r1, r2⟩ := rd.two
  exact call_divmod pins s σ H _ us Q I rv ⟨i, j, by rw [show v = .int i from r1, show u = .int j from r2], f1, fun p np => k _ _ _ _ f ⟨p, _, rfl, upd_same, .cons rfl (.cons rfl .nil)⟩ (rh.new0 np) (Ext.new np)⟩
theorem cb_all (hc : X.calm = true) : CallR X (.builtin "all") (rL X.K (wpBi .all)) := by
  intro pins s σ H xs us Q I rv w
  obtain ⟨ds, h, Qc, rd, rh, ⟨a, bs, rfl, f1, f2⟩, k⟩ := w
  obtain ⟨v, rfl, r1⟩ := rd.one
  obtain ⟨vs, e1, rs⟩ := rh.rdl f1
  rw [rs.bls] at e1
  exact cr_all hc pins s σ H _ us Q I rv ⟨a, bs, by rw [show v = .ref a from r1], e1, fg_out k f2 rfl rh (.refl _)⟩
theorem cb_any (hc : X.calm = true) : CallR X (.builtin "any") (rL X.K (wpBi .any)) := by
  intro pins s σ H xs us Q I rv w
  obtain ⟨ds, h, Qc, rd, rh, ⟨a, bs, rfl, f1, f2⟩, k⟩ := w
  obtain ⟨v, rfl, r1⟩ := rd.one
  obtain ⟨vs, e1, rs⟩ := rh.rdl f1
  rw [rs.bls] at e1
  exact cr_any hc pins s σ H _ us Q I rv ⟨a, bs, by rw [show v = .ref a from r1], e1, fg_out k f2 rfl rh (.refl _)⟩
/-! ### methods -/
theorem mb_append : MtR X "list.append" (rM X.K (wpMt .append)) := by
  intro pins s σ H x xs v us Q I rx rv w
  obtain ⟨d, ds, h, Qc, rd, rds, rh, ⟨a, ys, y, rfl, rfl, f1, f2, f3⟩, k⟩ := w
  obtain ⟨z, rfl, r1⟩ := rds.one
  obtain ⟨vs, e1, rs⟩ := rh.lst f1
  obtain ⟨g1, g2⟩ := rh.lstPut (a := a) (ds := ys ++ [y]) f1 (rs.app (.cons r1 .nil))
  exact mt_append pins s σ H x _ v us Q I rx rv ⟨a, vs, z, rd, rfl, e1, by rw [← rs.len]; exact f2, k _ _ _ _ f3 rfl g1 g2⟩
theorem mb_pop : MtR X "list.pop" (rM X.K (wpMt .pop)) := by
  intro pins s σ H x xs v us Q I rx rv w
  obtain ⟨d, ds, h, Qc, rd, rds, rh, ⟨a, ys, y, rfl, rfl, f1, f2, f3⟩, k⟩ := w
  cases rds
  obtain ⟨vs, e1, rs⟩ := rh.lst f1
  obtain ⟨z, e2, rz⟩ := rs.get f2
  obtain ⟨g1, g2⟩ := rh.lstPut (a := a) f1 rs.dropLast
  exact mt_pop pins s σ H x _ v us Q I rx rv ⟨a, vs, z, rd, rfl, e1, by rw [← rs.len]; exact e2, k _ _ _ _ f3 (rz.ext g2) g1 g2⟩
theorem mb_clear : MtR X "list.clear" (rM X.K (wpMt .clear)) := by
  intro pins s σ H x xs v us Q I rx rv w
  obtain ⟨d, ds, h, Qc, rd, rds, rh, ⟨a, ys, rfl, rfl, f1, f3⟩, k⟩ := w
  cases rds
  obtain ⟨vs, e1, rs⟩ := rh.lst f1
  obtain ⟨g1, g2⟩ := rh.lstPut (a := a) (ds := []) f1 .nil
  exact mt_clear pins s σ H x _ v us Q I rx rv ⟨a, vs, rd, rfl, e1, k _ _ _ _ f3 rfl g1 g2⟩
theorem mb_reverse : MtR X "list.reverse" (rM X.K (wpMt .reverse)) := by
  intro pins s σ H x xs v us Q I rx rv w
  obtain ⟨d, ds, h, Qc, rd, rds, rh, ⟨a, ys, rfl, rfl, f1, f3⟩, k⟩ := w
  cases rds
  obtain ⟨vs, e1, rs⟩ := rh.lst f1
  obtain ⟨g1, g2⟩ := rh.lstPut (a := a) f1 rs.rev
  exact mt_reverse pins s σ H x _ v us Q I rx rv ⟨a, vs, rd, rfl, e1, k _ _ _ _ f3 rfl g1 g2⟩
/-! ### stores -/
theorem set_any (hu : X.A.units + 200 < cLine) : PSet X fun o i v H Q => ∃ (d e z : D) (h : Hc) (Qc : Hc → Prop), Rp H d o ∧ Rp H e i ∧ Rp H z v ∧ RH X.K H h ∧
    ((∃ a xs k j, d = .ref a ∧ e = .int k ∧ h a = some (.lst xs) ∧ ixN xs.length k = some j ∧ Qc (hset h a (.lst (xs.set j z)))) ∨
      ∃ a kvs k, d = .ref a ∧ kkOf e = some k ∧ h a = some (.dic kvs) ∧ kindB kvs k = true ∧ kvs.length < sizeLine ∧ Qc (hset h a (.dic (dput kvs k z)))) ∧
    ∀ h' H', Qc h' → RH X.K H' h' → Ext H H' → Q H' := by
  intro pins s σ H o i v ov iv u Q I ro ri rv w
  obtain ⟨d, e, z, h, Qc, rd, re, rz, rh, f, k⟩ := w
  rcases f with ⟨a, xs, n, j, rfl, rfl, f1, f2, f3⟩ | ⟨a, kvs, kk, rfl, f1, f2, f3, f4, f5⟩
  · obtain ⟨vs, e1, rs⟩ := rh.lst f1
    obtain ⟨g1, g2⟩ := rh.lstPut (a := a) f1 (rs.set j rz)
    exact set_list pins s σ H o i v ov iv u Q I ro ri rv ⟨a, vs, n, j, rd, re, e1, by rw [← rs.len]; exact f2, k _ _ f3 g1 g2⟩
  · rw [kkOf_some f1] at re
    obtain ⟨H', H2, I', g, rh2, x2⟩ := dput_of I rh f2 f3 f4 re rz
    cases rd
    cases ro
    exact d_setItem (by omega) I' g ri rv fun s' I2 => ⟨H2, I2, k _ _ f5 rh2 x2⟩
end
end Sr

set_option Elab.async false
set_option linter.all false
set_option maxRecDepth 100000
set_option autoImplicit false
/-! Sr6: the rules of expressions. -/
namespace Sr
open PySem PySem.Spec PyProof.Rows L2
/-- a call by the clean layer, as a promise -/
def spC (K : PySem.W.Frag) (cA : Nat → Option Addr) (F : Fn) : Sp := fun vs H Q E => ∃ ds h Qc Xc, Rps H ds vs ∧ RH K H h ∧ F ds h Qc Xc ∧
  (∀ d h' v H', Qc d h' → Rp H' d v → RH K H' h' → Ext H H' → Q v H') ∧ (∀ x h' cls dd H', Xc x h' → RX ⟨K, none, fun _ _ _ _ => False, cA⟩ x cls dd H' → RH K H' h' → Ext H H' → E cls dd H')
section
variable {X : Cx} {q : Cq} {M : Md} {a b c e : Expr} {es : List Expr} {pos : Pos} {ma mb mc me : E} {mes : Es}

theorem x_var {i : Nat} (h : PE X e (tVar i)) : PE X e (low q (wpE M (.var i))) := h.imp fun σ H Q ⟨c, h, Qc, Xc, rs, rh, ⟨d, e1, k⟩, qq, qx⟩ => by
  obtain ⟨v, e2, r⟩ := rs.at_ i d e1
  exact ⟨v, e2, qq _ _ _ _ k r rh (.refl _)⟩
theorem x_con {d : D} {v : V} (r : ∀ H, Rp H d v) (h : PE X e (tC v)) : PE X e (low q (wpE M (.con d))) := h.imp fun σ H Q ⟨c, h, Qc, Xc, rs, rh, k, qq, qx⟩ =>
  qq _ _ _ _ k (r H) rh (.refl _)
/-- two values and an operation -/
theorem low_two {f : D → D → Hc → Qv → Prop} {ta tb : Sg → Hc → Qv → Qx → Prop} {σ : L2.St} {H : Hp} {Q : VK} {R : VK} (w : low q (fun σ h Q X => ta σ h (fun x h1 => tb σ h1 (fun y h2 => f x y h2 Q) X) X) σ H Q) :
    tOp (r2 q.K f) (low q ta) (low q tb) σ H Q := by
  obtain ⟨c, h, Qc, Xc, rs, rh, k, qq, qx⟩ := w
  refine ⟨c, h, _, Xc, rs, rh, k, fun d h1 v H1 k1 r1 rh1 x1 => ?_, qx⟩
  refine ⟨c, h1, _, Xc, rs.ext x1, rh1, k1, fun e h2 u H2 k2 r2' rh2 x2 => ?_, fun x h' cls dd H' k r rh' x' => qx x h' cls dd H' k r rh' (x1.trans x')⟩
  exact ⟨d, e, h2, Qc, r1.ext x2, r2', rh2, k2, fun d' h' v' H' k' r' rh' x' => qq _ _ _ _ k' r' rh' ((x1.trans x2).trans x')⟩
theorem x_bin (hK : X.K = q.K) {o : Bin} (ha : PE X a (low q (wpE M ma))) (hb : PE X b (low q (wpE M mb))) : PE X (.BinOp a (opOf o) b pos) (low q (wpE M (.bin o ma mb))) :=
  (pe_op (op_bin o) ha hb).imp fun σ H Q w => by rw [hK]; exact low_two (R := Q) w
theorem x_cmp (hK : X.K = q.K) (hu : X.A.units + 200 < cLine) {o : Cm} (ha : PE X a (low q (wpE M ma))) (hb : PE X b (low q (wpE M mb))) (hm : behindInMarks (cmOf o) b = false) :
    PE X (.Compare a [cmOf o] [b] pos) (low q (wpE M (.cmp o ma mb))) :=
  (pe_cmpR (op_cm hu o) ha hb hm).imp fun σ H Q w => by rw [hK]; exact low_two (R := Q) w
theorem x_ix (hK : X.K = q.K) (hu : X.A.units + 200 < cLine) (ha : PE X a (low q (wpE M ma))) (hb : PE X b (low q (wpE M mb))) (hs : PlainIx b) : PE X (.Subscript a b pos) (low q (wpE M (.ix ma mb))) :=
  (pe_ix (ix_any hu) ha hb hs).imp fun σ H Q w => by rw [hK]; exact low_two (R := Q) w
theorem x_neg (ha : PE X a (low q (wpE M ma))) : PE X (.UnaryOp .USub a pos) (low q (wpE M (.neg ma))) :=
  (pe_un un_neg ha).imp fun σ H Q w => by
    obtain ⟨c, h, Qc, Xc, rs, rh, k, qq, qx⟩ := w
    refine ⟨c, h, _, Xc, rs, rh, k, fun d h1 v H1 ⟨i, e, k1⟩ r1 rh1 x1 => ?_, qx⟩
    subst e
    exact ⟨i, r1, qq _ _ _ _ k1 rfl rh1 x1⟩
theorem x_not (hK : X.K = q.K) (ha : PE X a (low q (wpE M ma))) : PE X (.UnaryOp .Not a pos) (low q (wpE M (.not ma))) :=
  (pe_notT ha).imp fun σ H Q w => by
    obtain ⟨c, h, Qc, Xc, rs, rh, k, qq, qx⟩ := w
    refine ⟨c, h, _, Xc, rs, rh, k, fun d h1 v H1 ⟨i, e, k1⟩ r1 rh1 x1 => ?_, qx⟩
    exact ⟨i, by rw [hK]; exact tru_of rh1 r1 e, qq _ _ _ _ k1 rfl rh1 x1⟩
theorem x_and (hK : X.K = q.K) {rest : List Expr} (ha : PE X a (low q (wpE M ma))) (hb : PE X (.BoolOp .And (b :: rest) pos) (low q (wpE M mb))) : PE X (.BoolOp .And (a :: b :: rest) pos) (low q (wpE M (.and ma mb))) :=
  (pe_andT ha hb).imp fun σ H Q w => by
    obtain ⟨c, h, Qc, Xc, rs, rh, k, qq, qx⟩ := w
    refine ⟨c, h, _, Xc, rs, rh, k, fun d h1 v H1 ⟨i, e, k1⟩ r1 rh1 x1 => ?_, qx⟩
    refine ⟨i, by rw [hK]; exact tru_of rh1 r1 e, ?_⟩
    cases i with
    | true => exact ⟨c, h1, Qc, Xc, rs.ext x1, rh1, k1, fun d' h' v' H' k' r' rh' x' => qq _ _ _ _ k' r' rh' (x1.trans x'), fun x h' cls dd H' k r rh' x' => qx x h' cls dd H' k r rh' (x1.trans x')⟩
    | false => exact qq _ _ _ _ k1 r1 rh1 x1
theorem x_or (hK : X.K = q.K) {rest : List Expr} (ha : PE X a (low q (wpE M ma))) (hb : PE X (.BoolOp .Or (b :: rest) pos) (low q (wpE M mb))) : PE X (.BoolOp .Or (a :: b :: rest) pos) (low q (wpE M (.or ma mb))) :=
  (pe_orT ha hb).imp fun σ H Q w => by
    obtain ⟨c, h, Qc, Xc, rs, rh, k, qq, qx⟩ := w
    refine ⟨c, h, _, Xc, rs, rh, k, fun d h1 v H1 ⟨i, e, k1⟩ r1 rh1 x1 => ?_, qx⟩
    refine ⟨i, by rw [hK]; exact tru_of rh1 r1 e, ?_⟩
    cases i with
    | false => exact ⟨c, h1, Qc, Xc, rs.ext x1, rh1, k1, fun d' h' v' H' k' r' rh' x' => qq _ _ _ _ k' r' rh' (x1.trans x'), fun x h' cls dd H' k r rh' x' => qx x h' cls dd H' k r rh' (x1.trans x')⟩
    | true => exact qq _ _ _ _ k1 r1 rh1 x1
theorem x_ife (hc : PT X c (lowT q (wpT M mc))) (ha : PE X a (low q (wpE M ma))) (hb : PE X b (low q (wpE M mb))) : PE X (.IfExp c a b pos) (low q (wpE M (.ife mc ma mb))) :=
  (pe_ifExp hc ha hb).imp fun σ H Q w => by
    obtain ⟨c, h, Qc, Xc, rs, rh, k, qq, qx⟩ := w
    refine ⟨c, h, _, Xc, rs, rh, k, fun i h1 H1 k1 rh1 x1 => ?_, qx⟩
    cases i with
    | true => exact ⟨c, h1, Qc, Xc, rs.ext x1, rh1, k1, fun d' h' v' H' k' r' rh' x' => qq _ _ _ _ k' r' rh' (x1.trans x'), fun x h' cls dd H' k r rh' x' => qx x h' cls dd H' k r rh' (x1.trans x')⟩
    | false => exact ⟨c, h1, Qc, Xc, rs.ext x1, rh1, k1, fun d' h' v' H' k' r' rh' x' => qq _ _ _ _ k' r' rh' (x1.trans x'), fun x h' cls dd H' k r rh' x' => qx x h' cls dd H' k r rh' (x1.trans x')⟩
/-! ### argument lists -/
theorem xs_nil : PA X [] (lowA q (wpEs M .nil)) := pa_nil.imp fun σ H Q w => by
  obtain ⟨c, h, Qc, Xc, rs, rh, k, qq, qx⟩ := w
  exact qq _ _ _ _ k .nil rh (.refl _)
theorem xs_cons (ha : PE X e (low q (wpE M me))) (hr : PA X es (lowA q (wpEs M mes))) (hs : starEach (e :: es) X.env = (false, eval e X.env) :: starEach es X.env) : PA X (e :: es) (lowA q (wpEs M (.cons me mes))) :=
  (pa_cons ha hr hs).imp fun σ H Q w => by
    obtain ⟨c, h, Qc, Xc, rs, rh, k, qq, qx⟩ := w
    refine ⟨c, h, _, Xc, rs, rh, k, fun d h1 v H1 k1 r1 rh1 x1 => ?_, qx⟩
    refine ⟨c, h1, _, Xc, rs.ext x1, rh1, k1, fun ds h2 vs H2 k2 r2 rh2 x2 => ?_, fun x h' cls dd H' k r rh' x' => qx x h' cls dd H' k r rh' (x1.trans x')⟩
    exact qq _ _ _ _ k2 (.cons (r1.ext x2) r2) rh2 (x1.trans x2)
theorem x_tup {k0 : Nat} (h : PA X es (lowA q (wpEs M mes))) : PE X (.Tuple es k0 pos) (low q (wpE M (.tup mes))) :=
  (pe_tup h).imp fun σ H Q w => by
    obtain ⟨c, h, Qc, Xc, rs, rh, k, qq, qx⟩ := w
    refine ⟨c, h, _, Xc, rs, rh, k, fun d h1 v H1 ⟨k0, k1⟩ r1 rh1 x1 => ?_, qx⟩
    exact ⟨by rw [← r1.len]; exact k0, fun p np => qq _ _ _ _ k1 ⟨p, v, rfl, upd_same, r1.ext (Ext.new np)⟩ (rh1.new0 np) (x1.trans (Ext.new np))⟩
theorem x_lst (h : PA X es (lowA q (wpEs M mes))) : PE X (.List es pos) (low q (wpE M (.lst mes))) :=
  (pe_lst h).imp fun σ H Q w => by
    obtain ⟨c, h, Qc, Xc, rs, rh, k, qq, qx⟩ := w
    refine ⟨c, h, _, Xc, rs, rh, k, fun d h1 v H1 ⟨k0, k1⟩ r1 rh1 x1 => ?_, qx⟩
    exact ⟨by rw [← r1.len]; exact k0, fun p np => qq _ _ _ _ (k1 p (rh1.free np)) rfl (rh1.lstNew np r1) (x1.trans (Ext.new np))⟩
theorem x_dic0 : PE X (.Dict [] [] pos) (low q (wpE M (.dic .nil .nil))) :=
  pe_dnewK.imp fun σ H Q w => by
    obtain ⟨c, h, Qc, Xc, rs, rh, ⟨_, _, k⟩, qq, qx⟩ := w
    intro p np
    refine qq _ _ _ _ (k p (rh.free np)) rfl (rh.upd (Ext.new np) (.inl ⟨[], upd_same, .nil⟩)) (Ext.new np)
/-- a call by values -/
theorem low_args {f : List D → Hc → Qv → Prop} {σ : L2.St} {H : Hp} {Q : VK} (w : low q (fun σ h Q X => wpEs M mes σ h (fun ds h1 => f ds h1 Q) X) σ H Q) : tCB (rL q.K f) (lowA q (wpEs M mes)) σ H Q := by
  obtain ⟨c, h, Qc, Xc, rs, rh, k, qq, qx⟩ := w
  exact ⟨c, h, _, Xc, rs, rh, k, fun d h1 v H1 k1 r1 rh1 x1 => ⟨d, h1, Qc, r1, rh1, k1, fun d' h' v' H' k' r' rh' x' => qq _ _ _ _ k' r' rh' (x1.trans x')⟩, qx⟩
theorem x_call {f : Nat} {x : Str} {p : Pos} {k : Nat} {fa : Addr} {fd : FuncData} {ps : List Str} (hK : X.K = q.K) (tk : Takes X q.W) (F : FnOk X.prog X.w X.K X.mg X.base (L2.CX X.prog X.w) k fa fd ps (spC X.K q.cA (M.C f))) (hr : Room k X.A) (hg : Gl X x)
    (hm : X.mg x = some (.ref fa)) (hk : PySem.W.keepIn X.K (.ref fa) = true) (hb : Binds X.K fd ps []) (hdb : (x == ("__debug__" : Str)) = false) (ha : PA X (e :: es) (lowA q (wpEs M mes)))
    (he : starEach (e :: es) X.env = (false, eval e X.env) :: starEach es X.env) (hpl : (backTo pos (starEach es X.env)).any (·.1) = false) : PE X (.Call (.Name x p) (e :: es) [] pos) (low q (wpE M (.call f mes))) :=
  (pe_callS (E := WE q.W) F hr hg hm hk hb (passAt tk) ha hdb he hpl).imp fun σ H Q w => by
    obtain ⟨c, h, Qc, Xc, rs, rh, k, qq, qx⟩ := w
    refine ⟨c, h, _, Xc, rs, rh, k, fun d h1 v H1 k1 r1 rh1 x1 => ?_, qx⟩
    exact ⟨d, h1, Qc, Xc, r1, by rw [hK]; exact rh1, k1, fun d' h' v' H' k' r' rh' x' => qq _ _ _ _ k' r' (by rw [← hK]; exact rh') (x1.trans x'), fun x h' cls dd H' k r rh' x' => qx x h' cls dd H' k r (by rw [← hK]; exact rh') (x1.trans x')⟩
theorem x_call0 {f : Nat} {x : Str} {p : Pos} {k : Nat} {fa : Addr} {fd : FuncData} {ps : List Str} (hK : X.K = q.K) (tk : Takes X q.W) (F : FnOk X.prog X.w X.K X.mg X.base (L2.CX X.prog X.w) k fa fd ps (spC X.K q.cA (M.C f))) (hr : Room k X.A) (hg : Gl X x)
    (hm : X.mg x = some (.ref fa)) (hk : PySem.W.keepIn X.K (.ref fa) = true) (hb : Binds X.K fd ps []) (hdb : (x == ("__debug__" : Str)) = false) : PE X (.Call (.Name x p) [] [] pos) (low q (wpE M (.call f .nil))) := by
  refine ⟨fun pins s σ H Q I w => ?_⟩
  refine wpAny_Call_Name_kw (ld_glob I hg hm (PySem.W.callWith_K0 I.kIn hk ?_) hdb)
  refine run_fnS (us := []) (E := WE q.W) F hr hb (passAt tk σ) I .nil ?_
  obtain ⟨c, h, Qc, Xc, rs, rh, k, qq, qx⟩ := w
  exact ⟨[], h, Qc, Xc, .nil, by rw [hK]; exact rh, k, fun d' h' v' H' k' r' rh' x' => qq _ _ _ _ k' r' (by rw [← hK]; exact rh') x', fun x h' cls dd H' k r rh' x' => qx x h' cls dd H' k r (by rw [← hK]; exact rh') x'⟩
theorem x_biB {id : String} {x : Str} {p : Pos} {b : Bi} (hK : X.K = q.K) (hc : CallR X (.builtin id) (rL X.K (wpBi b))) (hg : Gl X x) (hm : X.mg x = none) (hv : bootBuiltins x = some (.builtin id)) (hn : x ≠ "__name__") (hdb : (x == ("__debug__" : Str)) = false)
    (ha : PA X (e :: es) (lowA q (wpEs M mes))) (he : starEach (e :: es) X.env = (false, eval e X.env) :: starEach es X.env) (hpl : (backTo pos (starEach es X.env)).any (·.1) = false) : PE X (.Call (.Name x p) (e :: es) [] pos) (low q (wpE M (.bi b mes))) :=
  (pe_callB hc hg hm hv ha hn hdb he hpl).imp fun σ H Q w => by rw [hK]; exact low_args w
theorem x_biT {id : String} {x : Str} {p : Pos} {b : Bi} (hK : X.K = q.K) (hc : CallR X (.type id) (rL X.K (wpBi b))) (hg : Gl X x) (hm : X.mg x = none) (hv : bootBuiltins x = some (.type id)) (hn : x ≠ "__name__") (hdb : (x == ("__debug__" : Str)) = false)
    (ha : PA X (e :: es) (lowA q (wpEs M mes))) (he : starEach (e :: es) X.env = (false, eval e X.env) :: starEach es X.env) (hpl : (backTo pos (starEach es X.env)).any (·.1) = false) : PE X (.Call (.Name x p) (e :: es) [] pos) (low q (wpE M (.bi b mes))) :=
  (pe_callTy hc hg hm hv ha hn hdb he hpl).imp fun σ H Q w => by rw [hK]; exact low_args w
/-! ### slices -/
def lowO (q : Cq) (M : Md) (m : Es) : TO := fun σ H Q => ∃ c h Qc Xc, Rs q.ev H c σ ∧ RH q.K H h ∧ wpEs M m c h Qc Xc ∧
  (∀ ds h', Qc ds h' → ∃ o : Option Int, ds = (o.map D.int).toList) ∧ (∀ ds h' H' (o : Option Int), Qc ds h' → ds = (o.map D.int).toList → RH q.K H' h' → Ext H H' → Q o H') ∧
  (∀ x h' cls dd H', Xc x h' → RX q x cls dd H' → RH q.K H' h' → Ext H H' → q.W cls dd σ H')
theorem o_none : PO X none (lowO q M .nil) := ⟨fun pins s σ H Q I w => po_none.run pins s σ H Q I (by
  obtain ⟨c, h, Qc, Xc, rs, rh, k, _, qq, _⟩ := w
  exact qq _ _ _ none k rfl rh (.refl _))⟩
theorem o_some (ha : PE X e (low q (wpE M me))) : PO X (some e) (lowO q M (.cons me .nil)) := ⟨fun pins s σ H Q I w => (po_some ha).run pins s σ H Q I (by
  obtain ⟨c, h, Qc, Xc, rs, rh, k, q1, qq, qx⟩ := w
  refine ⟨c, h, _, Xc, rs, rh, k, fun d h1 v H1 k1 r1 rh1 x1 => ?_, qx⟩
  obtain ⟨o, eo⟩ := q1 _ _ k1
  cases o with
  | none => cases eo
  | some i =>
    cases eo
    exact ⟨i, r1, qq _ _ _ (some i) k1 rfl rh1 x1⟩)⟩
theorem x_sl {lo hi : Option Expr} {ml mh : Es} {p2 : Pos} (hK : X.K = q.K) (ha : PE X a (low q (wpE M ma))) (hl : PO X lo (lowO q M ml)) (hh : PO X hi (lowO q M mh)) : PE X (.Subscript a (.Slice lo hi none p2) pos) (low q (wpE M (.sl ma ml mh))) :=
  (pe_slice sl_any ha hl hh).imp fun σ H Q w => by
    obtain ⟨c, h, Qc, Xc, rs, rh, k, qq, qx⟩ := w
    refine ⟨c, h, _, Xc, rs, rh, k, fun d h1 v H1 k1 r1 rh1 x1 => ?_, qx⟩
    refine ⟨c, h1, _, Xc, rs.ext x1, rh1, k1, fun ds h' k => k.1, fun l h2 H2 o k2 el rh2 x2 => ?_, fun x h' cls dd H' k r rh' x' => qx x h' cls dd H' k r rh' (x1.trans x')⟩
    refine ⟨c, h2, _, Xc, (rs.ext x1).ext x2, rh2, k2.2, fun ds h' ⟨_, hi, _, e, _⟩ => ⟨hi, e⟩, fun u h3 H3 o2 k3 eu rh3 x3 => ?_, fun x h' cls dd H' k r rh' x' => qx x h' cls dd H' k r rh' ((x1.trans x2).trans x')⟩
    obtain ⟨lo', hi', e1, e2, k4⟩ := k3
    have z1 : lo' = o := by
      rw [el] at e1
      cases lo' <;> cases o <;> cases e1 <;> rfl
    have z2 : hi' = o2 := by
      rw [eu] at e2
      cases hi' <;> cases o2 <;> cases e2 <;> rfl
    subst z1 z2
    rw [hK]
    exact ⟨d, h3, Qc, (r1.ext x2).ext x3, rh3, k4, fun d' h' v' H' k' r' rh' x' => qq _ _ _ _ k' r' rh' (((x1.trans x2).trans x3).trans x')⟩
end
end Sr

set_option Elab.async false
set_option linter.all false
set_option maxRecDepth 100000
set_option autoImplicit false
/-! SrT1: set tables of any mask: the round of the search. -/
namespace Sr
open PySem PySem.Spec PyProof.Rows L2
/-- the masks that come, to 8191 -/
def Mk (m : Nat) : Prop := ∃ k, 3 ≤ k ∧ k ≤ 13 ∧ m + 1 = 2 ^ k
/-- the sum of the powers of five below -/
def gg : Nat → Nat
  | 0 => 0
  | n + 1 => 5 * gg n + 1
theorem five_gg : ∀ n, 5 ^ n = 4 * gg n + 1
  | 0 => rfl
  | n + 1 => by
    rw [Nat.pow_succ, five_gg n]
    show _ = 4 * (5 * gg n + 1) + 1
    omega
theorem gg_add (a : Nat) : ∀ b, gg (a + b) = 5 ^ b * gg a + gg b
  | 0 => by show gg a = 5 ^ 0 * gg a + 0; rw [Nat.pow_zero, Nat.one_mul, Nat.add_zero]
  | b + 1 => by
    show 5 * gg (a + b) + 1 = 5 ^ (b + 1) * gg a + (5 * gg b + 1)
    rw [gg_add a b, Nat.pow_succ, Nat.mul_add, Nat.mul_comm (5 ^ b) 5, Nat.mul_assoc]
    omega
theorem gg_double (e : Nat) : gg (e + e) = 2 * (gg e * (2 * gg e + 1)) := by
  rw [gg_add, five_gg, Nat.add_mul, Nat.one_mul, Nat.mul_add, Nat.mul_one, Nat.mul_add]
  have : 4 * gg e * gg e = 2 * (gg e * (2 * gg e)) := by
    rw [Nat.mul_left_comm (gg e) 2, ← Nat.mul_assoc 2 2, Nat.mul_assoc]
  omega
theorem gg_par : ∀ n, gg n % 2 = n % 2
  | 0 => rfl
  | n + 1 => by
    have := gg_par n
    show (5 * gg n + 1) % 2 = _
    omega
theorem pow_odd {k x y : Nat} (hy : y % 2 = 1) (h : 2 ^ k ∣ x * y) : 2 ^ k ∣ x := by
  have : Nat.Coprime (2 ^ k) y := by
    apply Nat.Coprime.pow_left
    show Nat.gcd 2 y = 1
    rw [Nat.gcd_rec, hy]
    rfl
  exact this.dvd_of_dvd_mul_right h
theorem gg_dvd : ∀ (k d : Nat), 2 ^ k ∣ gg d → 2 ^ k ∣ d
  | 0, d, _ => by rw [Nat.pow_zero]; exact Nat.one_dvd d
  | k + 1, d, h => by
    have h2 : gg d % 2 = 0 := by
      obtain ⟨c, e⟩ := h
      rw [e, Nat.pow_succ, Nat.mul_comm (2 ^ k) 2, Nat.mul_assoc]
      exact Nat.mul_mod_right _ _
    rw [gg_par] at h2
    obtain ⟨e, rfl⟩ : ∃ e, d = e + e := ⟨d / 2, by omega⟩
    rw [gg_double, Nat.pow_succ, Nat.mul_comm (2 ^ k) 2] at h
    have h3 : 2 ^ k ∣ gg e * (2 * gg e + 1) := Nat.dvd_of_mul_dvd_mul_left (by decide) h
    have h4 := gg_dvd k e (pow_odd (by omega) h3)
    obtain ⟨c, ec⟩ := h4
    exact ⟨c, by rw [Nat.pow_succ, ec, Nat.mul_comm (2 ^ k) 2, Nat.mul_assoc]; omega⟩
/-- the round in closed form -/
theorem lcg_form (m i : Nat) (hi : i ≤ m) : ∀ n, lcgI m i n = (5 ^ n * i + gg n) % (m + 1)
  | 0 => by
    show i = (5 ^ 0 * i + 0) % (m + 1)
    rw [Nat.pow_zero, Nat.one_mul, Nat.add_zero, Nat.mod_eq_of_lt (Nat.lt_succ_of_le hi)]
  | n + 1 => by
    show (lcgI m i n * 5 + 1) % (m + 1) = (5 ^ (n + 1) * i + (5 * gg n + 1)) % (m + 1)
    rw [lcg_form m i hi n, Nat.add_mod, Nat.mul_mod, Nat.mod_mod, ← Nat.mul_mod, ← Nat.add_mod, Nat.pow_succ]
    congr 1
    rw [Nat.add_mul, Nat.mul_right_comm (5 ^ n) 5 i]
    omega
theorem lcg_bound (m i : Nat) (hi : i ≤ m) : ∀ n, lcgI m i n ≤ m
  | 0 => hi
  | n + 1 => Nat.le_of_lt_succ (Nat.mod_lt _ (Nat.succ_pos _))
theorem lcg_more (m i a : Nat) : ∀ d, lcgI m i (a + d) = lcgI m (lcgI m i a) d
  | 0 => rfl
  | d + 1 => by
    show (lcgI m i (a + d) * 5 + 1) % (m + 1) = (lcgI m (lcgI m i a) d * 5 + 1) % (m + 1)
    rw [lcg_more m i a d]
/-- nothing is met twice within a round -/
theorem lcg_once {m k x d : Nat} (hk : m + 1 = 2 ^ k) (hx : x ≤ m) (h : lcgI m x d = x) : 2 ^ k ∣ d := by
  rw [lcg_form m x hx, hk, five_gg, Nat.add_mul, Nat.one_mul] at h
  have h1 : (4 * gg d * x + x + gg d) % 2 ^ k = x % 2 ^ k := by
    rw [h, Nat.mod_eq_of_lt (by omega)]
  have e : 4 * gg d * x + x + gg d = gg d * (4 * x + 1) + x := by
    rw [Nat.mul_add, Nat.mul_one, Nat.mul_comm 4 (gg d), Nat.mul_assoc]
    omega
  rw [e] at h1
  have h2 : 2 ^ k ∣ gg d * (4 * x + 1) := by
    have := Nat.sub_mod_eq_zero_of_mod_eq h1
    rw [Nat.add_sub_cancel] at this
    exact Nat.dvd_of_mod_eq_zero this
  exact gg_dvd k d (pow_odd (by omega) h2)
theorem nodup_range_map {f : Nat → Nat} {n : Nat} (h : ∀ a b, a < b → b < n → f a ≠ f b) : ((List.range n).map f).Nodup := by
  rw [List.Nodup, List.pairwise_map]
  refine List.Pairwise.imp_of_mem ?_ (List.pairwise_lt_range (n := n))
  intro a b _ hb hab
  exact h a b hab (List.mem_range.mp hb)
/-- from anywhere each slot is met within a round -/
theorem lcg_hits {m i j : Nat} (hm : Mk m) (hi : i ≤ m) (hj : j ≤ m) : ∃ k, k ≤ m ∧ lcgI m i k = j := by
  obtain ⟨k, _, _, hk⟩ := hm
  have nd : ((List.range (m + 1)).map (lcgI m i)).Nodup := nodup_range_map fun a b hab hb e => by
    obtain ⟨d, rfl⟩ : ∃ d, b = a + d := ⟨b - a, by omega⟩
    rw [lcg_more] at e
    have := Nat.le_of_dvd (by omega) (lcg_once hk (lcg_bound m i hi a) e.symm)
    omega
  rcases Classical.em (j ∈ (List.range (m + 1)).map (lcgI m i)) with c | c
  · obtain ⟨k, h1, h2⟩ := List.mem_map.mp c
    exact ⟨k, Nat.le_of_lt_succ (List.mem_range.mp h1), h2⟩
  · have := nat_nodup_len ((List.range (m + 1)).map (lcgI m i)) ((List.range (m + 1)).erase j) nd fun x hx => by
      have hne : x ≠ j := fun z => c (z ▸ hx)
      obtain ⟨k, h1, h2⟩ := List.mem_map.mp hx
      refine (List.mem_erase_of_ne hne).2 (List.mem_range.mpr ?_)
      rw [← h2]
      exact Nat.lt_succ_of_le (lcg_bound m i hi k)
    rw [List.length_map, List.length_range, List.length_erase_of_mem (List.mem_range.mpr (Nat.lt_succ_of_le hj)), List.length_range] at this
    omega
theorem run_hits {m j : Nat} (hm : Mk m) (h : Int) (hj : j ≤ m) : ∃ n, n ≤ m + 12 ∧ runI m (SetTable.bits h) n = j := by
  obtain ⟨k, h1, h2⟩ := lcg_hits hm (runI_le m (SetTable.bits h) 12) hj
  refine ⟨12 + k, by omega, ?_⟩
  rw [runI_tail (bits_lt h)]
  exact h2
theorem way_hits {m j : Nat} (hm : Mk m) (h : Int) (hj : j ≤ m) : ∃ k, k < 10 * SetTable.turns m ∧ way m h k = j := by
  obtain ⟨n, h1, h2⟩ := run_hits hm h hj
  obtain ⟨k, h3, h4⟩ := run_nth m (SetTable.bits h) n
  refine ⟨k, ?_, ?_⟩
  · unfold SetTable.turns
    omega
  · show (nth m (runAt m (SetTable.bits h % (m + 1)) (SetTable.bits h)) k).j = j
    rw [h4]
    exact h2
theorem way_in {m : Nat} (h : Int) (k : Nat) : way m h k ≤ m := by
  have hi : SetTable.bits h % (m + 1) ≤ m := Nat.le_of_lt_succ (Nat.mod_lt _ (Nat.succ_pos _))
  have r := runEnd_bd hi
  have := nth_in (m := m) k (runAt m (SetTable.bits h % (m + 1)) (SetTable.bits h)) (by
    show SetTable.bits h % (m + 1) + (SetTable.runEnd m (SetTable.bits h % (m + 1)) - SetTable.bits h % (m + 1)) ≤ m
    omega)
  show (nth m _ k).j ≤ m
  omega
theorem Mk.odd {m : Nat} (hm : Mk m) : m % 2 = 1 := by
  obtain ⟨k, h1, _, h2⟩ := hm
  obtain ⟨j, rfl⟩ : ∃ j, k = j + 1 := ⟨k - 1, by omega⟩
  rw [Nat.pow_succ] at h2
  omega
theorem Mk.le {m : Nat} (hm : Mk m) : m ≤ 8191 := by
  obtain ⟨k, _, h1, h2⟩ := hm
  have : 2 ^ k ≤ 2 ^ 13 := Nat.pow_le_pow_right (by decide) h1
  omega
theorem Mk.ge {m : Nat} (hm : Mk m) : 7 ≤ m := by
  obtain ⟨k, h1, _, h2⟩ := hm
  have : 2 ^ 3 ≤ 2 ^ k := Nat.pow_le_pow_right (by decide) h1
  omega
end Sr

set_option Elab.async false
set_option linter.all false
set_option maxRecDepth 100000
set_option autoImplicit false
/-! SrT2: set tables of any mask: putting in, laying anew. -/
namespace Sr
open PySem PySem.Spec PyProof.Rows L2
/-- every hash of hs is found on its way -/
structure Tw (t : SetTable) (hs : List Int) : Prop where
  up : Ris t.place.toList
  nd : t.dummies = #[]
  len : t.place.size = hs.length
  msk : Mk t.mask
  low : ∀ x ∈ t.place.toList, x ≤ t.mask
  on : ∀ (i : Nat) (h : Int) (j : Nat), hs[i]? = some h → t.place.toList[i]? = some j → ∃ k, way t.mask h k = j ∧ ∀ c, c < k → way t.mask h c ∈ t.place.toList
section
variable {t : SetTable} {hs : List Int} {h : Int} {K : Nat}
theorem Tw.slen (T : Tw t hs) : t.place.toList.length = hs.length := (Array.length_toList).trans T.len
/-- the way's first empty slot -/
theorem Tw.gap (T : Tw t hs) (few : hs.length ≤ t.mask) (h : Int) : ∃ K, K < 10 * SetTable.turns t.mask ∧ way t.mask h K ∉ t.place.toList ∧ ∀ c, c < K → way t.mask h c ∈ t.place.toList := by
  obtain ⟨j, j1, j2⟩ := st_missing t.place.toList (t.mask + 1) (by have := T.slen; omega)
  obtain ⟨k, k1, k2⟩ := way_hits T.msk h (Nat.le_of_lt_succ j1)
  obtain ⟨K, a, b, d⟩ := st_least (p := fun z => way t.mask h z ∉ t.place.toList) k (by show way t.mask h k ∉ _; rw [k2]; exact j2)
  refine ⟨K, by omega, b, fun c hc => ?_⟩
  have := d c hc
  exact Classical.not_not.mp this
/-- what has the hash lies ahead of that slot -/
theorem Tw.ahead (T : Tw t hs) {i j : Nat} (gap : way t.mask h K ∉ t.place.toList) (ei : hs[i]? = some h) (ej : t.place.toList[i]? = some j) : ∃ c, c < K ∧ way t.mask h c = j := by
  obtain ⟨k, e, all⟩ := T.on i h j ei ej
  refine ⟨k, Nat.lt_of_not_le fun le => ?_, e⟩
  rcases Nat.lt_or_eq_of_le le with l | l
  · exact gap (all K l)
  · exact gap (by rw [l, e]; exact List.mem_of_getElem? ej)
/-- one more, at the way's first empty slot -/
theorem Tw.add (T : Tw t hs) (gap : way t.mask h K ∉ t.place.toList) (full : ∀ c, c < K → way t.mask h c ∈ t.place.toList) {p : Nat} (ep : p = SetTable.below t.place (way t.mask h K)) :
    p ≤ hs.length ∧ Tw (t.put (way t.mask h K)).1 (hs.take p ++ h :: hs.drop p) ∧ (t.put (way t.mask h K)).1.fill = hs.length + 1 := by
  have lo : way t.mask h K ≤ t.mask := way_in h K
  have pl : (t.put (way t.mask h K)).1.place.toList = t.place.toList.take p ++ way t.mask h K :: t.place.toList.drop p := by
    rw [ep]; exact put_place t _
  have pn : (t.put (way t.mask h K)).1.dummies = #[] := put_dm T.nd _
  have cut := (below_cut T.up (way t.mask h K)).1
  rw [← ep] at cut
  have pb : p ≤ t.place.toList.length := by rw [Array.length_toList]; exact cut
  have pb2 : p ≤ hs.length := by rw [← T.len]; exact cut
  have grow : ∀ x, x ∈ t.place.toList → x ∈ (t.put (way t.mask h K)).1.place.toList := fun x hx => by
    rw [pl]; exact mem_ins.mpr (.inr hx)
  have sz : (t.put (way t.mask h K)).1.place.size = hs.length + 1 := by
    rw [← Array.length_toList, pl, len_ins _ pb, T.slen]
  have up : Ris (t.put (way t.mask h K)).1.place.toList := ris_insert T.up fun z => gap (List.mem_of_getElem? ((Array.getElem?_toList).trans z))
  refine ⟨pb2, ⟨up, pn, by rw [sz, len_ins _ pb2], T.msk, fun x hx => ?_, fun i g j e1 e2 => ?_⟩, ?_⟩
  · rw [pl] at hx
    rcases mem_ins.mp hx with z | z
    · exact z ▸ lo
    · exact T.low x z
  · rw [tins_get hs pb2] at e1
    rw [pl, tins_get _ pb] at e2
    rcases Nat.lt_trichotomy i p with c | c | c
    · rw [if_pos c] at e1 e2
      obtain ⟨k, k1, k2⟩ := T.on i g j e1 e2
      exact ⟨k, k1, fun z hz => grow _ (k2 z hz)⟩
    · rw [if_neg (by omega), if_pos c] at e1 e2
      cases e1
      cases e2
      exact ⟨K, rfl, fun z hz => grow _ (full z hz)⟩
    · rw [if_neg (by omega), if_neg (by omega)] at e1 e2
      obtain ⟨k, k1, k2⟩ := T.on (i - 1) g j e1 e2
      exact ⟨k, k1, fun z hz => grow _ (k2 z hz)⟩
  · show (t.put (way t.mask h K)).1.place.size + (t.put (way t.mask h K)).1.dummies.size = _
    rw [sz, pn]
    rfl
end
/-! ### laying anew -/
section
variable {m : Nat}
theorem spot (hm : Mk m) (ow : Array (Option Nat)) (h : Int) {j : Nat} (hj : j ≤ m) (fr : oAt ow j = none) :
    ∃ K, SetTable.layClean.free m ow (SetTable.turns m) (SetTable.bits h % (m + 1)) (SetTable.bits h) = some (way m h K) ∧ oAt ow (way m h K) = none ∧ ∀ c, c < K → oAt ow (way m h c) ≠ none := by
  obtain ⟨n, n1, n2⟩ := run_hits hm h hj
  let N := off m (SetTable.bits h % (m + 1)) (SetTable.bits h) n
  have wN : way m h N = j := by
    show (nth m (runAt m (SetTable.bits h % (m + 1)) (SetTable.bits h)) N).j = j
    rw [nth_off, itL_run]
    exact n2
  obtain ⟨K, a, b, d⟩ := st_least (p := fun z => oAt ow (way m h z) = none) N (by show oAt ow (way m h N) = none; rw [wN]; exact fr)
  have lt : n < SetTable.turns m := by
    unfold SetTable.turns
    omega
  refine ⟨K, free_spec m ow _ n _ _ K lt a (fun c hc => ?_) (Option.isNone_iff_eq_none.mpr b), b, d⟩
  cases z : oAt ow (way m h c) with
  | none => exact absurd z (d c hc)
  | some o =>
    rfl
theorem own_more (hm : Mk m) {dn : List Int} {ow : Array (Option Nat)} (W : Own m dn ow) (few : dn.length ≤ m) (h : Int) :
    ∃ j, SetTable.layClean.free m ow (SetTable.turns m) (SetTable.bits h % (m + 1)) (SetTable.bits h) = some j ∧ Own m (dn ++ [h]) (ow.setIfInBounds j (some dn.length)) := by
  obtain ⟨ps, p1, p2⟩ := W.ps
  obtain ⟨z, z1, z2⟩ := st_missing ps (m + 1) (by omega)
  have zf : oAt ow z = none := Classical.byContradiction fun c => z2 (p2 z (by omega) c)
  obtain ⟨K, a, b, d⟩ := spot hm ow h (by omega : z ≤ m) zf
  refine ⟨way m h K, a, ?_⟩
  have inb : way m h K < ow.size := by have := way_in (m := m) h K; have := W.sz; omega
  have at1 := oAt_set_self (some dn.length) inb
  have at2 : ∀ {i : Nat}, i ≠ way m h K → oAt (ow.setIfInBounds (way m h K) (some dn.length)) i = oAt ow i := fun c => oAt_set_ne _ c
  have taken : ∀ i, oAt ow i ≠ none → oAt (ow.setIfInBounds (way m h K) (some dn.length)) i ≠ none := fun i hi => by
    by_cases c : i = way m h K
    · subst c; rw [at1]; exact Option.some_ne_none _
    · rw [at2 c]; exact hi
  constructor
  · rw [Array.size_setIfInBounds]; exact W.sz
  · intro j k hj e
    by_cases c : j = way m h K
    · subst c
      rw [at1] at e
      cases e
      exact ⟨h, K, by rw [List.getElem?_append_right (Nat.le_refl _), Nat.sub_self]; rfl, rfl, fun c hc => taken _ (d c hc)⟩
    · rw [at2 c] at e
      obtain ⟨g, G, a1, a2, a3⟩ := W.at_ j k hj e
      exact ⟨g, G, by rw [List.getElem?_append_left (List.getElem?_eq_some_iff.mp a1).1]; exact a1, a2, fun c hc => taken _ (a3 c hc)⟩
  · intro k hk
    rw [List.length_append, List.length_singleton] at hk
    rcases Nat.lt_or_ge k dn.length with c | c
    · obtain ⟨j, a1, a2⟩ := W.all k c
      refine ⟨j, a1, ?_⟩
      rw [at2 fun z => by rw [z, b] at a2; cases a2]
      exact a2
    · obtain rfl : k = dn.length := by omega
      exact ⟨_, way_in h K, at1⟩
  · refine ⟨way m h K :: ps, by rw [List.length_cons, p1, List.length_append]; rfl, fun j hj e => ?_⟩
    by_cases c : j = way m h K
    · exact List.mem_cons.mpr (.inl c)
    · rw [at2 c] at e
      exact List.mem_cons.mpr (.inr (p2 j hj e))
theorem own_fold (hm : Mk m) : ∀ (r dn : List Int) (ow : Array (Option Nat)), Own m dn ow → dn.length + r.length ≤ m → ∃ ow', r.foldl (stepF m) (some (ow, dn.length)) = some (ow', (dn ++ r).length) ∧ Own m (dn ++ r) ow'
  | [], dn, ow, W, _ => by rw [List.append_nil]; exact ⟨ow, rfl, W⟩
  | h :: r, dn, ow, W, le => by
    rw [List.length_cons] at le
    obtain ⟨j, e, W1⟩ := own_more hm W (by omega) h
    have l1 : (dn ++ [h]).length = dn.length + 1 := by rw [List.length_append]; rfl
    obtain ⟨ow', f, W2⟩ := own_fold hm r (dn ++ [h]) _ W1 (by omega)
    rw [List.append_assoc, l1] at f
    rw [List.append_assoc] at W2
    refine ⟨ow', ?_, W2⟩
    rw [List.foldl_cons, stepF_some e]
    exact f
theorem own_all (hm : Mk m) {hs : Array Int} (few : hs.size ≤ m) : ∃ ow, SetTable.layClean m hs = some ow ∧ Own m hs.toList ow := by
  obtain ⟨ow, f, W⟩ := own_fold hm hs.toList [] (Array.replicate (m + 1) none) (Own.init m) (by simpa using few)
  refine ⟨ow, ?_, W⟩
  rw [layClean_eq, show (0 : Nat) = ([] : List Int).length from rfl, f]
  rfl
theorem lay_ok (t : SetTable) {hs : Array Int} {want : Nat} (ew : SetTable.sizeAbove want - 1 = m) (hm : Mk m) (few : hs.size ≤ m) :
    ∃ t' ord, t.relaid hs want = some (t', ord) ∧ ord.toList.Perm (List.range hs.size) ∧ Tw t' (ord.toList.map fun i => hs.getD i 0) ∧ t'.mask = m ∧ t'.led = t.led := by
  obtain ⟨ow, e, W⟩ := own_all hm few
  have eq : t.relaid hs want = some (tabOf t m ow, ((liveOf m ow).map (·.2)).toArray) := by
    rw [relaid_eq, ew, e]; rfl
  obtain ⟨r1, r2⟩ := ris_live (fun j => ow.getD j none) (List.range (m + 1)) (by unfold Ris; exact List.pairwise_lt_range)
  have r1 : Ris ((liveOf m ow).map (·.1)) := r1
  have nd : ((liveOf m ow).map (·.1)).Nodup := List.Pairwise.imp (fun l => Nat.ne_of_lt l) r1
  have back : ∀ k, k < hs.size → k ∈ (liveOf m ow).map (·.2) := fun k hk => by
    obtain ⟨j, a, b⟩ := W.all k (by rw [Array.length_toList]; exact hk)
    exact List.mem_map.mpr ⟨(j, k), (mem_live W.sz).mpr ⟨a, b⟩, rfl⟩
  have num : (liveOf m ow).length = hs.size := by
    obtain ⟨ps, p1, p2⟩ := W.ps
    have le1 := nat_nodup_len _ ps nd fun x hx => by
      obtain ⟨⟨y, k⟩, a, rfl⟩ := List.mem_map.mp hx
      obtain ⟨b1, b2⟩ := (mem_live W.sz).mp a
      exact p2 y b1 (by rw [b2]; exact Option.some_ne_none k)
    have le2 := nat_nodup_len (List.range hs.size) _ List.nodup_range fun k hk => back k (List.mem_range.mp hk)
    rw [List.length_map, p1] at le1
    rw [List.length_map, List.length_range] at le2
    have : hs.toList.length = hs.size := Array.length_toList
    omega
  refine ⟨_, _, eq, perm_range _ _ (by simpa using num) (fun k hk => by simpa using back k hk), ⟨r1, rfl, ?_, hm, fun x hx => ?_, fun i h j e1 e2 => ?_⟩, rfl, rfl⟩
  · show ((liveOf m ow).map (·.1)).toArray.size = _
    simp
  · exact Nat.le_of_lt_succ (List.mem_range.mp (r2 x hx))
  · have e2 : ((liveOf m ow).map (·.1))[i]? = some j := e2
    have e1 : (((liveOf m ow).map (·.2)).map fun i => hs.getD i 0)[i]? = some h := e1
    rw [List.getElem?_map] at e2
    rw [List.getElem?_map, List.getElem?_map] at e1
    obtain ⟨⟨y, k⟩, q1, q2⟩ := Option.map_eq_some_iff.mp e2
    subst q2
    rw [q1] at e1
    have e1 : hs.getD k 0 = h := Option.some.inj e1
    obtain ⟨b1, b2⟩ := (mem_live W.sz).mp (List.mem_of_getElem? q1)
    obtain ⟨g, G, a1, a2, a3⟩ := W.at_ y k b1 b2
    have : g = h := by
      rw [← e1, Array.getD_eq_getD_getElem?, ← Array.getElem?_toList, a1]; rfl
    subst this
    refine ⟨G, a2, fun c hc => ?_⟩
    show way m g c ∈ (liveOf m ow).map (·.1)
    cases z : oAt ow (way m g c) with
    | none => exact absurd z (a3 c hc)
    | some o => exact List.mem_map.mpr ⟨(_, o), (mem_live W.sz).mpr ⟨way_in g c, z⟩, rfl⟩
end
/-- the sizes -/
theorem above_of {n k : Nat} (h3 : 3 ≤ k) (hk : k ≤ 13) (h1 : n < 2 ^ k) (h2 : 2 ^ k ≤ 2 * n ∨ k = 3) : SetTable.sizeAbove n = 2 ^ k := by
  have key : ∀ (f j : Nat), j ≤ k → k < j + f → (j = k ∨ 2 ^ (k - 1) ≤ n) → SetTable.sizeAbove.go n f (2 ^ j) = 2 ^ k := by
    intro f
    induction f with
    | zero => intro j a b _; omega
    | succ f ih =>
      intro j a b c
      unfold SetTable.sizeAbove.go
      by_cases e : j = k
      · subst e
        rw [if_neg (by omega)]
      · have c' : 2 ^ (k - 1) ≤ n := c.resolve_left e
        have : 2 ^ j ≤ 2 ^ (k - 1) := Nat.pow_le_pow_right (by decide) (by omega)
        rw [if_pos (by omega), ← Nat.pow_succ]
        exact ih (j + 1) (by omega) (by omega) (.inr c')
  refine key 64 3 h3 (by omega) ?_
  rcases h2 with h2 | h2
  · refine .inr ?_
    obtain ⟨j, rfl⟩ : ∃ j, k = j + 1 := ⟨k - 1, by omega⟩
    rw [Nat.pow_succ] at h2
    show 2 ^ j ≤ n
    omega
  · exact .inl h2.symm
end Sr

set_option Elab.async false
set_option linter.all false
set_option maxRecDepth 100000
set_option autoImplicit false
set_option maxHeartbeats 1000000
/-! SrT3: a set of tuples of whole numbers and texts: search, adding. -/
namespace Sr
open PySem PySem.Spec PyProof.Rows L2
/-- the hash of such a tuple; it stands at a -/
abbrev hM (P : Program) (w : World) (k : List Key) : Int := tupleKeyHash (mixKind P w) k
abbrev IsM (P : Program) (w : World) (h : Heap) (k : List Key) (a : Addr) : Prop := IsTupleKey (mixKind P w) h k a
def small : Value → Bool
  | .int _ _ => true
  | .str _ _ => true
  | _ => false
theorem small_cls {v : Value} (n : Nat) (h : small v = true) : ofAClassStatement n v = pure false := by
  cases v <;> first | (cases n <;> rfl) | exact nomatch (show false = true from h)
theorem small_hbv {v : Value} (n : Nat) (h : small v = true) : ∃ b, hashByValue n v = pure b := by
  cases v with
  | int i t => exact ⟨true, by cases n <;> rfl⟩
  | str x t => exact ⟨false, by cases n <;> rfl⟩
  | _ => exact nomatch (show false = true from h)
section
variable {P : Program} {w : World} {A : Around} {E : Value → Shared → Prop} {s : Shared}
theorem small_items {k : List Key} {vs : List Value} (h : ItemsAre (mixKind P w) k vs) : vs.all small = true := by
  induction h with
  | nil => rfl
  | @cons c v ks us e _ ih =>
    rw [List.all_cons, ih, Bool.and_true]
    rcases keyIs_shape e with ⟨i, t, _, e2⟩ | ⟨x, t, _, e2⟩
    · rw [e2]; rfl
    · rw [e2]; rfl
theorem cls_of {k : List Key} {b : Addr} {Q : Bool → Shared → Prop} (hk : IsM P w s.heap k b) (q : Q false s) : wpAny (model P w) A (ofAClassStatement 8 (.ref b)) Q E s := by
  have ty := hk.typeIs
  obtain ⟨o, its, n, e1, _, e2, e3⟩ := hk
  unfold ofAClassStatement
  refine wpAny_bind (wpAny_typeOf ty ?_)
  dsimp only
  have yes : (("tuple" : String) == "tuple") = true := by decide
  simp only [yes, if_true, Bool.not_true, Bool.false_eq_true, if_false]
  try refine wpAny_bind (wpAny_pure ?_)
  try simp only [Bool.not_true, Bool.false_eq_true, if_false]
  refine wpAny_bind (show wpAny _ _ (seqItems? (.ref b)) _ _ s from wpAny_seqItems e1 e2 ?_)
  dsimp only
  refine wpAny_bind ?_
  rw [← Array.forIn_toList]
  refine wpAny_forIn_list _ (fun r z s' => z.1 = none ∧ s' = s ∧ r.all small = true) _ (fun v r z s' hh => ?_) (fun z s' hh => ?_) _ _ ⟨rfl, rfl, small_items e3⟩
  · obtain ⟨_, rfl, al⟩ := hh
    rw [List.all_cons, Bool.and_eq_true] at al
    rw [small_cls _ al.1]
    exact wpAny_bind (wpAny_pure (by simp only [Bool.false_eq_true, if_false]; exact wpAny_pure ⟨rfl, rfl, al.2⟩))
  · obtain ⟨z1, rfl, _⟩ := hh
    obtain ⟨z0, z2⟩ := z
    cases z1
    exact wpAny_pure q
theorem hbv_of {k : List Key} {b : Addr} {Q : Bool → Shared → Prop} (hk : IsM P w s.heap k b) (q : ∀ r, Q r s) : wpAny (model P w) A (hashByValue 8 (.ref b)) Q E s := by
  have ty := hk.typeIs
  obtain ⟨o, its, n, e1, _, e2, e3⟩ := hk
  unfold hashByValue
  refine wpAny_bind (wpAny_specialOf ty F.slot_tuple_hash.lookup ?_)
  refine wpAny_bind (show wpAny _ _ (seqItems? (.ref b)) _ _ s from wpAny_seqItems e1 e2 ?_)
  refine wpAny_bind ?_
  show wpAny _ _ (forIn its _ _) _ _ s
  rw [← Array.forIn_toList]
  refine wpAny_forIn_list _ (fun r z s' => s' = s ∧ r.all small = true) _ (fun v r z s' hh => ?_) (fun z s' hh => ?_) _ _ ⟨rfl, small_items e3⟩
  · obtain ⟨rfl, al⟩ := hh
    rw [List.all_cons, Bool.and_eq_true] at al
    obtain ⟨c, ec⟩ := small_hbv 7 al.1
    rw [ec]
    refine wpAny_bind (wpAny_pure ?_)
    cases c with
    | true => simp only [Bool.not_true, Bool.false_eq_true, if_false]; exact wpAny_pure ⟨rfl, al.2⟩
    | false =>
      simp only [Bool.not_false, if_true]
      exact wpAny_pure (wpAny_pure (q _))
  · obtain ⟨rfl, _⟩ := hh
    obtain ⟨z1, z2⟩ := z
    cases z1 with
    | none => exact wpAny_pure (q _)
    | some r => exact wpAny_pure (q _)
/-- nothing is shown by a search among them -/
theorem quiet_of {k : List Key} {b : Addr} {Q : Bool → Shared → Prop} (hk : IsM P w s.heap k b) {ys : List Value} (hy : ∀ y ∈ ys, ∃ g c, y = Value.ref c ∧ IsM P w s.heap g c) (q : Q false s) :
    wpAny (model P w) A (searchCouldBeSeen (.ref b) ys) Q E s := by
  unfold searchCouldBeSeen
  refine wpAny_bind (wpAny_forIn_list _ (fun r z s' => z.1 = none ∧ s' = s ∧ ∀ y ∈ r, ∃ g c, y = Value.ref c ∧ IsM P w s.heap g c) _ (fun v r z s' hh => ?_) (fun z s' hh => ?_) _ _ ⟨rfl, rfl, hy⟩)
  · obtain ⟨_, rfl, al⟩ := hh
    obtain ⟨g, c, rfl, hc⟩ := al v (List.mem_cons.mpr (.inl rfl))
    have tl := fun u hu => al u (List.mem_cons.mpr (.inr hu))
    dsimp only
    by_cases hv : (b == c || (carriedByValue (.ref b) && carriedByValue (.ref c))) = true
    · exact wp_if_pos hv (wpAny_pure ⟨rfl, rfl, tl⟩)
    · refine wp_if_neg hv (wpAny_bind (wpAny_eqIsQuiet_tuple hk ?_))
      simp only [Bool.not_true, Bool.false_eq_true, if_false]
      refine wpAny_bind (wpAny_eqIsQuiet_tuple hc ?_)
      simp only [Bool.not_true, Bool.false_eq_true, if_false]
      refine wpAny_bind (cls_of hk ?_)
      simp only [Bool.false_eq_true, if_false]
      refine wpAny_bind (cls_of hc ?_)
      simp only [Bool.false_eq_true, if_false]
      exact wpAny_pure ⟨rfl, rfl, tl⟩
  · obtain ⟨z1, rfl, _⟩ := hh
    obtain ⟨z0, z2⟩ := z
    cases z1
    exact wpAny_pure q
/-! ### the set -/
def rowM (P : Program) (w : World) (p : Addr × List Key) : Int × Value := (hM P w p.2, .ref p.1)
structure Ts (P : Program) (w : World) (h : Heap) (a : Addr) (L : List (Addr × List Key)) (es : Array (Int × Value)) (ep : Nat) (t : SetTable) : Prop where
  ob : ∃ o, h.get? a = some o ∧ o.ExactSet ∧ o.data = .set es ep t
  rw_ : es.toList = L.map (rowM P w)
  tw : Tw t (L.map fun p => hM P w p.2)
  un : (L.map (·.2)).Nodup
  ks : ∀ p ∈ L, IsM P w h p.2 p.1
  ld : w.params.followText "set-order" = true ∨ t.led = true
  rm : L.length * 5 < t.mask * 3
variable {a : Addr} {L : List (Addr × List Key)} {es : Array (Int × Value)} {ep : Nat} {t : SetTable}
theorem rows_size (e : es.toList = L.map (rowM P w)) : es.size = L.length := by
  have := congrArg List.length e
  simpa using this
theorem Ts.sz (R : Ts P w s.heap a L es ep t) : es.size = L.length := rows_size R.rw_
theorem Ts.psz (R : Ts P w s.heap a L es ep t) : t.place.size = L.length := by rw [R.tw.len, List.length_map]
theorem Ts.fit (R : Ts P w s.heap a L es ep t) : t.fits es.size = true := by
  have h1 := R.psz
  have h2 := R.sz
  have h3 := R.rm
  unfold SetTable.fits SetTable.fill
  rw [R.tw.nd, Bool.and_eq_true, beq_iff_eq, decide_eq_true_eq]
  show t.place.size = es.size ∧ t.place.size + 0 ≤ t.mask
  omega
theorem row_at (e : es.toList = L.map (rowM P w)) {i : Nat} {p : Addr × List Key} (h : L[i]? = some p) : es[i]? = some (rowM P w p) := by
  rw [← Array.getElem?_toList, e, List.getElem?_map, h]; rfl
theorem Ts.gw (R : Ts P w s.heap a L es ep t) : ¬ t.gaveWay = true := by
  unfold SetTable.gaveWay
  rw [R.tw.msk.odd]
  decide
/-- the state of a probe's way -/
abbrev pr (t : SetTable) (g : Int) (c : Nat) : SetTable.Probe := nth t.mask (runAt t.mask (SetTable.bits g % (t.mask + 1)) (SetTable.bits g)) c
theorem pr_dummy (t : SetTable) (g : Int) (c : Nat) : (pr t g c).dummy = none := by
  have key : ∀ (n : Nat) (p : SetTable.Probe), p.dummy = none → (nth t.mask p n).dummy = none := fun n => by
    induction n with
    | zero => exact fun p e => e
    | succ n ih =>
      refine fun p e => ih _ ?_
      unfold adv
      split <;> exact e
  exact key c _ rfl
theorem find_on (R : Ts P w s.heap a L es ep t) {x : Addr} {k : List Key} (hx : IsM P w s.heap k x) (hu : A.units < cLine) {K : Nat} (hf : K < 10 * SetTable.turns t.mask)
    (gap : way t.mask (hM P w k) K ∉ t.place.toList) (full : ∀ c, c < K → way t.mask (hM P w k) c ∈ t.place.toList) {Q : SetFound → Shared → Prop}
    (yes : k ∈ L.map (·.2) → Q (.there none) s) (no : k ∉ L.map (·.2) → Q (.free (way t.mask (hM P w k) K) false) s) :
    ∀ (f c : Nat) (st : Option SetTable.Probe), st.getD (t.probeStart (hM P w k)) = pr t (hM P w k) c → c ≤ K → K - c < f →
      (∀ (i : Nat) p, L[i]? = some p → p.2 = k → ∃ d, c ≤ d ∧ d < K ∧ t.place.toList[i]? = some (way t.mask (hM P w k) d)) →
      wpAny (model P w) A (setSearchFrom a (.ref x) (hM P w k) true f st) Q E s
  | 0, _, _, _, _, lt, _ => absurd lt (Nat.not_lt_zero _)
  | f + 1, c, st, est, cK, lt, ahead => by
    obtain ⟨o, ho, hex, hd⟩ := R.ob
    rw [setSearchFrom_succ]
    refine wpAny_bind (wpAny_setState_of ho hd R.fit ?_)
    dsimp only
    refine wp_if_neg R.gw ?_
    try refine wpAny_bind (wpAny_pure ?_)
    have go : ∀ q, nth t.mask (pr t (hM P w k) c) q = pr t (hM P w k) (c + q) := fun q => (nth_add t.mask c _ q).symm
    have goj : ∀ q, (nth t.mask (pr t (hM P w k) c) q).j = way t.mask (hM P w k) (c + q) := fun q => congrArg SetTable.Probe.j (go q)
    have cc : c + (K - c) = K := by omega
    have ans := go_spec t R.tw.up R.tw.nd (fun i => (es[i]?.map (·.1)).getD 0) (hM P w k) (10 * SetTable.turns t.mask) (K - c) (pr t (hM P w k) c) (pr_dummy t _ c) (by omega)
      (fun q hq => by rw [goj]; exact full _ (by omega)) (by rw [goj, cc]; exact gap)
    have hashOf : ∀ (i : Nat) p, L[i]? = some p → ((es[i]?.map (·.1)).getD 0) = hM P w p.2 := fun i p hp => by rw [row_at R.rw_ hp]; rfl
    rcases ans with ⟨q, i, q1, q2, q3, q4, q5⟩ | ⟨q4, q5⟩
    · rw [show t.probe (fun i => (es[i]?.map (·.1)).getD 0) (hM P w k) (st.getD (t.probeStart (hM P w k))) = some (.candidate (way t.mask (hM P w k) (c + q)) i (pr t (hM P w k) (c + (q + 1)))) by
        rw [est, ← goj, ← go]; exact q5]
      dsimp only
      rw [goj] at q2
      have il : i < L.length := by
        have := (List.getElem?_eq_some_iff.mp q2).1
        rw [Array.length_toList, R.psz] at this
        exact this
      obtain ⟨p, ep0⟩ : ∃ p, L[i]? = some p := ⟨_, List.getElem?_eq_getElem il⟩
      have pm : p ∈ L := List.mem_of_getElem? ep0
      have live : t.slot (way t.mask (hM P w k) (c + q)) = .live i := slot_live R.tw.up q2
      have tail : wpAny (model P w) A (searchRest a (.ref x) (hM P w k) true f es t (way t.mask (hM P w k) (c + q)) i (pr t (hM P w k) (c + (q + 1)))) Q E s := by
        unfold searchRest
        rw [row_at R.rw_ ep0]
        dsimp only [rowM]
        refine wpAny_bind (wpAny_holding (wpAny_eqBool_tuple hu (R.ks p pm) hx ?_))
        refine wpAny_bind (wpAny_setState_of ho hd R.fit ?_)
        dsimp only
        by_cases same : p.2 = k
        · refine wp_if_pos (by simp [same]) (wpAny_pure (yes (List.mem_map.mpr ⟨p, pm, same⟩)))
        · refine wp_if_neg (by simp [same]) ?_
          try refine wpAny_bind (wpAny_pure ?_)
          rw [sameMem]
          dsimp only
          simp only [if_true, live, row_at R.rw_ ep0, rowM]
          refine wpAny_bind (wpAny_isSame_ref_self (wpAny_bind (wpAny_pure ?_)))
          simp only [if_true]
          refine wp_if_neg (by simp [same]) ?_
          refine find_on R hx hu hf gap full yes no f (c + (q + 1)) _ rfl (by omega) (by omega) fun i0 p0 h0 k0 => ?_
          obtain ⟨d, d1, d2, d3⟩ := ahead i0 p0 h0 k0
          refine ⟨d, Classical.byContradiction fun nd => ?_, d2, d3⟩
          rcases Nat.lt_or_ge d (c + q) with z | z
          · refine q4 (d - c) i0 (by omega) (by rw [goj, show c + (d - c) = d by omega]; exact d3) ?_
            rw [hashOf i0 p0 h0, k0]
          · obtain rfl : d = c + q := by omega
            have l2 := slot_live R.tw.up d3
            rw [live] at l2
            injection l2 with l2
            subst l2
            rw [ep0] at h0
            cases h0
            exact same k0
      by_cases hl : t.led = true
      · refine wp_if_neg (by simp [hl]) ?_
        try refine wpAny_bind (wpAny_pure ?_)
        exact tail
      · refine wp_if_pos (by simp [hl]) (wpAny_bind (quiet_of hx (fun y hy => ?_) (wp_if_neg (by decide) ?_)))
        · obtain ⟨e, he, rfl⟩ := List.mem_map.mp hy
          have e1 : e ∈ es.toList := by
            have : e ∈ es ∧ e.1 = hM P w k := by simpa using he
            simpa using this.1
          rw [R.rw_] at e1
          obtain ⟨z, z1, rfl⟩ := List.mem_map.mp e1
          exact ⟨z.2, z.1, rfl, R.ks z z1⟩
        · try refine wpAny_bind (wpAny_pure ?_)
          exact tail
    · rw [show t.probe (fun i => (es[i]?.map (·.1)).getD 0) (hM P w k) (st.getD (t.probeStart (hM P w k))) = some (.empty (way t.mask (hM P w k) K) none) by
        rw [est, show way t.mask (hM P w k) K = (nth t.mask (pr t (hM P w k) c) (K - c)).j by rw [goj, cc]]; exact q5]
      dsimp only
      refine wpAny_pure (no fun hm => ?_)
      obtain ⟨p0, m0, k0⟩ := List.mem_map.mp hm
      obtain ⟨i0, i1, i2⟩ := List.getElem_of_mem m0
      have h0 : L[i0]? = some p0 := by rw [List.getElem?_eq_getElem i1, i2]
      obtain ⟨d, d1, d2, d3⟩ := ahead i0 p0 h0 k0
      refine q4 (d - c) i0 (by omega) (by rw [goj, show c + (d - c) = d by omega]; exact d3) ?_
      rw [hashOf i0 p0 h0, k0]
theorem find_in (R : Ts P w s.heap a L es ep t) {x : Addr} {k : List Key} (hx : IsM P w s.heap k x) (hu : A.units < cLine) {Q : SetFound → Shared → Prop}
    (yes : k ∈ L.map (·.2) → Q (.there none) s)
    (no : ∀ K, k ∉ L.map (·.2) → way t.mask (hM P w k) K ∉ t.place.toList → (∀ c, c < K → way t.mask (hM P w k) c ∈ t.place.toList) → Q (.free (way t.mask (hM P w k) K) false) s) :
    wpAny (model P w) A (setSearch a (.ref x) (hM P w k) true) Q E s := by
  have rm := R.rm
  have le := R.tw.msk.le
  obtain ⟨K, k1, k2, k3⟩ := R.tw.gap (by rw [List.length_map]; omega) (hM P w k)
  have big : K < 100000 := by
    unfold SetTable.turns at k1
    omega
  unfold setSearch
  refine find_on R hx hu k1 k2 k3 yes (fun hn => no K hn k2 k3) 100000 0 none rfl (Nat.zero_le _) (by omega) fun i p hp hk => ?_
  have il : i < t.place.toList.length := by
    rw [Array.length_toList, R.psz]
    exact (List.getElem?_eq_some_iff.mp hp).1
  obtain ⟨c, c1, c2⟩ := R.tw.ahead k2 (i := i) (by rw [List.getElem?_map, hp, ← hk]; rfl) (List.getElem?_eq_getElem il)
  exact ⟨c, Nat.zero_le _, c1, by rw [c2]; exact List.getElem?_eq_getElem il⟩
end
end Sr

set_option Elab.async false
set_option linter.all false
set_option maxRecDepth 100000
set_option autoImplicit false
set_option maxHeartbeats 1000000
/-! SrT4: adding to a set of mixed tuples. -/
namespace Sr
open PySem PySem.Spec PyProof.Rows L2
theorem grown_to {n k : Nat} (h3 : 3 ≤ k) (hk : k ≤ 11) (lo : (2 ^ k - 1) * 3 ≤ n * 5) (hi : (n - 1) * 5 < (2 ^ k - 1) * 3) (n1 : 0 < n) (small : n ≤ 2000) : SetTable.sizeAbove (SetTable.grown n) = 2 ^ (k + 2) := by
  have g : SetTable.grown n = n * 4 := by
    unfold SetTable.grown
    rw [if_neg (by omega)]
  have p8 : 2 ^ 3 ≤ 2 ^ k := Nat.pow_le_pow_right (by decide) h3
  have e : 2 ^ (k + 2) = 2 ^ k * 4 := by rw [Nat.pow_add]
  rw [g]
  exact above_of (by omega) (by omega) (by rw [e]; omega) (.inl (by rw [e]; omega))
section
variable {P : Program} {w : World} {A : Around} {E : Value → Shared → Prop} {s : Shared}
theorem IsM.but {h h' : Heap} {k : List Key} {a b : Addr} {o : Obj} {es : Array (Int × Value)} {ep : Nat} {t : SetTable} (x : IsM P w h k b) (e : h.get? a = some o) (d : o.data = .set es ep t) (sb : Heap.SameBut a h h') : IsM P w h' k b := by
  obtain ⟨o2, its, n, e2, c2, d2, i2⟩ := x
  refine ⟨o2, its, n, (sb.2 b fun z => ?_).trans e2, c2, d2, i2⟩
  rw [z, e] at e2
  cases e2
  rw [d] at d2
  cases d2
theorem IsM.all {h h' : Heap} {k : List Key} {b : Addr} (x : IsM P w h k b) (k2 : ∀ c o, h.get? c = some o → h'.get? c = some o) : IsM P w h' k b :=
  let ⟨o, its, n, e, r⟩ := x
  ⟨o, its, n, k2 _ _ e, r⟩
theorem range_rows (L : List (Addr × List Key)) : (List.range L.length).filterMap (fun i => L[i]?) = L := by
  induction L with
  | nil => rfl
  | cons p L ih =>
    rw [List.length_cons, List.range_succ_eq_map, List.filterMap_cons_some (f := fun i => (p :: L)[i]?) (b := p) rfl, List.filterMap_map]
    exact congrArg _ ih
theorem order_rowsM (L : List (Addr × List Key)) (es : Array (Int × Value)) (ord : Array Nat) (e : es.toList = L.map (rowM P w)) (pm : ord.toList.Perm (List.range L.length)) :
    ∃ L2 : List (Addr × List Key), (ord.filterMap (es[·]?)).toList = L2.map (rowM P w) ∧ L2.Perm L ∧ (L2.map fun p => hM P w p.2) = ord.toList.map fun i => (es.map (·.1)).getD i 0 := by
  have step : ∀ l : List Nat, (∀ i ∈ l, i < L.length) → l.filterMap (fun i => es[i]?) = (l.filterMap fun i => L[i]?).map (rowM P w) ∧ ((l.filterMap fun i => L[i]?).map fun p => hM P w p.2) = l.map fun i => (es.map (·.1)).getD i 0 := fun l => by
    induction l with
    | nil => exact fun _ => ⟨rfl, rfl⟩
    | cons i l ih =>
      intro b
      obtain ⟨a1, a2⟩ := ih fun j hj => b j (List.mem_cons.mpr (.inr hj))
      have il := b i (List.mem_cons.mpr (.inl rfl))
      have ei := row_at e (List.getElem?_eq_getElem il)
      rw [List.filterMap_cons_some ei, List.filterMap_cons_some (List.getElem?_eq_getElem il), List.map_cons, List.map_cons, List.map_cons, a1, a2]
      refine ⟨rfl, ?_⟩
      congr 1
      rw [Array.getD_eq_getD_getElem?, Array.getElem?_map, ei]; rfl
  obtain ⟨a1, a2⟩ := step ord.toList fun i hi => List.mem_range.mp (pm.mem_iff.mp hi)
  refine ⟨ord.toList.filterMap fun i => L[i]?, by simpa using a1, ?_, a2⟩
  have := pm.filterMap fun i => L[i]?
  rwa [range_rows] at this
variable {a : Addr} {L : List (Addr × List Key)} {es : Array (Int × Value)} {ep : Nat} {t : SetTable}
/-- laid anew -/
theorem relay_of {o : Obj} (ho : s.heap.get? a = some o) (hex : o.ExactSet) (hd : o.data = .set es ep t) (er : es.toList = L.map (rowM P w)) (tw : Tw t (L.map fun p => hM P w p.2)) (un : (L.map (·.2)).Nodup) (ks : ∀ p ∈ L, IsM P w s.heap p.2 p.1)
    (ld : w.params.followText "set-order" = true ∨ t.led = true) (fit : L.length ≤ t.mask) {want m : Nat} (ew : SetTable.sizeAbove want = m + 1) (hm : Mk m) (rm : L.length * 5 < m * 3) {Q : Unit → Shared → Prop}
    (q : ∀ h' L' es' ep' t', Heap.SameBut a s.heap h' → Ts P w h' a L' es' ep' t' → L'.Perm L → Q () { s with heap := h' }) : wpAny (model P w) A (setRelay a want) Q E s := by
  have le := hm.le
  have sz := rows_size er
  have psz : t.place.size = L.length := by rw [tw.len, List.length_map]
  have ok : t.fits es.size = true := by
    unfold SetTable.fits SetTable.fill
    rw [tw.nd, Bool.and_eq_true, beq_iff_eq, decide_eq_true_eq]
    show t.place.size = es.size ∧ t.place.size + 0 ≤ t.mask
    omega
  obtain ⟨t', ord, e, pm, T, em, el⟩ := lay_ok t (hs := es.map (·.1)) (want := want) (m := m) (by omega) hm (by rw [Array.size_map]; omega)
  rw [Array.size_map, sz] at pm
  obtain ⟨L2, r1, r2, r3⟩ := order_rowsM L es ord er pm
  rw [← r3] at T
  have s2 : (ord.filterMap (es[·]?)).size = es.size := (rows_size r1).trans (r2.length_eq.trans sz.symm)
  have line : (16384 : Nat) ≤ sizeLine := by rw [sizeLine_eq]; decide
  rw [setRelay_eq]
  refine wpAny_bind (wpAny_setState_of ho hd ok ?_)
  dsimp only
  refine wp_if_neg (by omega) ?_
  try refine wpAny_bind (wpAny_pure ?_)
  rw [e]
  dsimp only
  refine wpAny_bind (wp_if_neg (by rw [s2]; simp) ?_)
  try refine wpAny_bind (wpAny_pure ?_)
  refine wpAny_pure ?_
  dsimp only
  refine wpAny_storeSet_of ho hd ?_ (by omega)
  have sb : Heap.SameBut a s.heap (s.heap.update a (Obj.putSet (ord.filterMap (es[·]?)) t')) := Heap.SameBut.update ..
  refine q _ L2 _ (ep + 1) t' sb ⟨⟨_, store_at ho hd, ⟨hex.1, hex.2.1, hex.2.2⟩, rfl⟩, r1, T, (r2.map (·.2)).nodup_iff.mpr un, fun p hp => (ks p (r2.mem_iff.mp hp)).but ho hd sb, by rw [el]; exact ld, by rw [r2.length_eq, em]; exact rm⟩ r2
/-- the end of adding -/
def aft (a : Addr) (es es1 : Array (Int × Value)) (t : SetTable) : Sem Bool := do
  storeSet a es1 t
  if !false && t.tooFull then setRelay a (SetTable.grown (es.size + 1))
  return true
/-- one is added -/
theorem add_of (R : Ts P w s.heap a L es ep t) {x : Addr} {k : List Key} (hx : IsM P w s.heap k x) (hu : A.units < cLine) (few : L.length + 1 ≤ 2000) {Q : Bool → Shared → Prop}
    (q : ∀ b h' L' es' ep' t', Heap.SameBut a s.heap h' → Ts P w h' a L' es' ep' t' → (k ∈ L.map (·.2) → L' = L) → (k ∉ L.map (·.2) → L'.Perm ((x, k) :: L)) → Q b { s with heap := h' }) :
    wpAny (model P w) A (setAddHashed a (.ref x) (hM P w k)) Q E s := by
  obtain ⟨o, ho, hex, hd⟩ := R.ob
  have sz := R.sz
  have rm := R.rm
  have line : (16384 : Nat) ≤ sizeLine := by rw [sizeLine_eq]; decide
  unfold setAddHashed
  refine wpAny_holding ?_
  rw [show (100000 : Nat) = 99999 + 1 from rfl, setAddHashedIn_succ]
  refine wpAny_bind (wpAny_setState_of ho hd R.fit ?_)
  dsimp only
  refine wp_if_neg (by simp [byScan, Value.scannable]) ?_
  try refine wpAny_bind (wpAny_pure ?_)
  refine wpAny_bind (find_in R hx hu (fun hin => ?_) fun K hout gap full => ?_)
  · dsimp only
    exact wpAny_pure (q false s.heap L es ep t (.refl a s.heap) R (fun _ => rfl) fun z => absurd hin z)
  · dsimp only
    refine wpAny_bind (wpAny_setState_of ho hd R.fit ?_)
    dsimp only
    obtain ⟨p, hp⟩ : ∃ p, p = SetTable.below t.place (way t.mask (hM P w k) K) := ⟨_, rfl⟩
    obtain ⟨a1, a2, a3⟩ := R.tw.add gap full hp
    have b1 : (t.put (way t.mask (hM P w k) K)).2 = p := hp.symm
    have b2 : (t.put (way t.mask (hM P w k) K)).1.mask = t.mask := rfl
    have b3 : (t.put (way t.mask (hM P w k) K)).1.led = t.led := rfl
    generalize t.put (way t.mask (hM P w k) K) = pt at a2 a3 b1 b2 b3 ⊢
    obtain ⟨t1, p1⟩ := pt
    dsimp only at a2 a3 b1 b2 b3 ⊢
    subst b1
    rw [List.length_map] at a1 a3
    -- the rows with it
    have pm : (L.take p1 ++ (x, k) :: L.drop p1).Perm ((x, k) :: L) := by
      have := List.perm_middle (a := (x, k)) (l₁ := L.take p1) (l₂ := L.drop p1)
      rwa [List.take_append_drop] at this
    have er : (SetTable.insertAt es p1 (hM P w k, Value.ref x)).toList = (L.take p1 ++ (x, k) :: L.drop p1).map (rowM P w) := by
      rw [SetTable.toList_insertAt, R.rw_, List.map_append, List.map_cons, List.map_take, List.map_drop]; rfl
    have tw : Tw t1 ((L.take p1 ++ (x, k) :: L.drop p1).map fun p => hM P w p.2) := by
      rw [List.map_append, List.map_cons, List.map_take, List.map_drop]; exact a2
    have un : ((L.take p1 ++ (x, k) :: L.drop p1).map (·.2)).Nodup := (pm.map (·.2)).nodup_iff.mpr (List.nodup_cons.mpr ⟨hout, R.un⟩)
    generalize SetTable.insertAt es p1 (hM P w k, Value.ref x) = es1 at er ⊢
    generalize L.take p1 ++ (x, k) :: L.drop p1 = L1 at pm er tw un
    have l1 : L1.length = L.length + 1 := pm.length_eq
    have sz1 := rows_size er
    have tail : ∀ t2 : SetTable, t2.place = t1.place → t2.dummies = t1.dummies → t2.mask = t1.mask → t2.led = t1.led →
        wpAny (model P w) A (aft a es es1 t2) Q E s := fun t2 c1 c2 c3 c4 => by
      have tw2 : Tw t2 (L1.map fun p => hM P w p.2) := ⟨by rw [c1]; exact tw.up, by rw [c2]; exact tw.nd, by rw [c1]; exact tw.len, by rw [c3]; exact tw.msk, by rw [c1, c3]; exact tw.low, by rw [c1, c3]; exact tw.on⟩
      have fl : t2.fill = L.length + 1 := by
        rw [← a3]
        unfold SetTable.fill
        rw [c1, c2]
      have ld2 : w.params.followText "set-order" = true ∨ t2.led = true := by rw [c4, b3]; exact R.ld
      have m2 : t2.mask = t.mask := c3.trans b2
      unfold aft
      refine wpAny_bind (wpAny_storeSet_of ho hd ?_ (by omega))
      have sb : Heap.SameBut a s.heap (s.heap.update a (Obj.putSet es1 t2)) := Heap.SameBut.update ..
      have ho1 := store_at (es' := es1) (t' := t2) ho hd
      generalize s.heap.update a (Obj.putSet es1 t2) = h1 at sb ho1 ⊢
      have ks : ∀ p ∈ L1, IsM P w h1 p.2 p.1 := fun p hp => by
        rcases List.mem_cons.mp (pm.mem_iff.mp hp) with e | e
        · rw [e]; exact hx.but ho hd sb
        · exact (R.ks p e).but ho hd sb
      by_cases hf : t2.tooFull = true
      · have big : t2.mask * 3 ≤ (L.length + 1) * 5 := by
          have := hf
          unfold SetTable.tooFull at this
          rw [fl] at this
          simpa using this
        obtain ⟨j, j1, j2, j3⟩ := R.tw.msk
        have jm : t.mask = 2 ^ j - 1 := by omega
        have j11 : j ≤ 11 := Classical.byContradiction fun c => by
          have : 2 ^ 12 ≤ 2 ^ j := Nat.pow_le_pow_right (by decide) (by omega)
          omega
        have gt := grown_to (n := L.length + 1) j1 j11 (by rw [← jm, ← m2]; exact big) (by rw [← jm]; exact rm) (by omega) few
        have j4 : 2 ^ (j + 2) = 2 ^ j * 4 := by rw [Nat.pow_add]
        have j8 : 2 ^ 3 ≤ 2 ^ j := Nat.pow_le_pow_right (by decide) j1
        have hm : Mk (2 ^ (j + 2) - 1) := ⟨j + 2, by omega, by omega, by omega⟩
        rw [sz]
        have fin : wpAny (model P w) A (setRelay a (SetTable.grown (L.length + 1))) (fun _ s' => wpAny (model P w) A (pure true) Q E s') E { s with heap := h1 } := by
          refine relay_of (s := { s with heap := h1 }) ho1 ⟨hex.1, hex.2.1, hex.2.2⟩ rfl er tw2 un ks ld2 (by omega) (m := 2 ^ (j + 2) - 1) (by rw [gt]; omega) hm (by omega) ?_
          intro h2 L2 es2 ep2 t3 sb2 R2 pm2
          exact wpAny_pure (q true h2 L2 es2 ep2 t3 (sb.trans sb2) R2 (fun z => absurd z hout) fun _ => pm2.trans pm)
        first
          | exact wpAny_bind (wp_if_pos (by simp [hf]) fin)
          | exact wp_if_pos (by simp [hf]) (wpAny_bind fin)
      · have rm2 : L1.length * 5 < t2.mask * 3 := by
          have := hf
          unfold SetTable.tooFull at this
          rw [fl] at this
          simp at this
          omega
        have fin : wpAny (model P w) A (pure true : Sem Bool) Q E { s with heap := h1 } := wpAny_pure (q true h1 L1 es1 (ep + 1) t2 sb ⟨⟨_, ho1, ⟨hex.1, hex.2.1, hex.2.2⟩, rfl⟩, er, tw2, un, ks, ld2, rm2⟩ (fun z => absurd z hout) fun _ => pm)
        first
          | exact wp_if_neg (by simp [hf]) fin
          | exact wpAny_bind (wp_if_neg (by simp [hf]) (wpAny_pure fin))
    by_cases pl : t1.plain = true
    · have both : ∀ r : Bool, wpAny (model P w) A (aft a es es1 (if r = true then t1 else { t1 with plain := false })) Q E s := fun r => by
        cases r with
        | true => exact tail t1 rfl rfl rfl rfl
        | false => exact tail { t1 with plain := false } rfl rfl rfl rfl
      first
        | exact wpAny_bind (wp_if_pos pl (hbv_of hx both))
        | exact wp_if_pos pl (wpAny_bind (hbv_of hx both))
    · have one : wpAny (model P w) A (aft a es es1 (if true = true then t1 else { t1 with plain := false })) Q E s := tail t1 rfl rfl rfl rfl
      first
        | exact wpAny_bind (wp_if_neg pl (wpAny_pure one))
        | exact wp_if_neg pl (wpAny_bind (wpAny_pure one))
        | exact wp_if_neg pl one
end
end Sr

set_option Elab.async false
set_option linter.all false
set_option maxRecDepth 100000
set_option autoImplicit false
set_option maxHeartbeats 3200000
/-! SrT5: set(xs) of mixed tuples, xs a list or a tuple. -/
namespace Sr
open PySem PySem.Spec PyProof.Rows L2
/-- what a set has got from the first i things -/
structure Gm (ks : List (Addr × List Key)) (i : Nat) (L : List (Addr × List Key)) : Prop where
  fr : ∀ p ∈ L, p ∈ ks.take i
  al : ∀ p ∈ ks.take i, p.2 ∈ L.map (·.2)
  le : L.length ≤ i
theorem take_one {α : Type} {l : List α} {i : Nat} {x : α} (e : l[i]? = some x) : l.take (i + 1) = l.take i ++ [x] := by
  rw [List.take_add_one, e]; rfl
theorem Gm.skip {ks L : List (Addr × List Key)} {i : Nat} {x : Addr × List Key} (g : Gm ks i L) (e : ks[i]? = some x) (m : x.2 ∈ L.map (·.2)) : Gm ks (i + 1) L where
  fr := fun p hp => by rw [take_one e]; exact List.mem_append.mpr (.inl (g.fr p hp))
  al := fun p hp => by
    rw [take_one e] at hp
    rcases List.mem_append.mp hp with z | z
    · exact g.al p z
    · cases List.mem_singleton.mp z; exact m
  le := by have := g.le; omega
theorem Gm.take {ks L L' : List (Addr × List Key)} {i : Nat} {x : Addr × List Key} (g : Gm ks i L) (e : ks[i]? = some x) (pm : L'.Perm (x :: L)) : Gm ks (i + 1) L' where
  fr := fun p hp => by
    rw [take_one e]
    rcases List.mem_cons.mp (pm.mem_iff.mp hp) with z | z
    · exact List.mem_append.mpr (.inr (List.mem_singleton.mpr z))
    · exact List.mem_append.mpr (.inl (g.fr p z))
  al := fun p hp => by
    rw [take_one e] at hp
    refine ((pm.map (·.2)).mem_iff).mpr ?_
    rcases List.mem_append.mp hp with z | z
    · exact List.mem_cons.mpr (.inr (g.al p z))
    · cases List.mem_singleton.mp z; exact List.mem_cons.mpr (.inl rfl)
  le := by have := g.le; have := pm.length_eq; rw [List.length_cons] at this; omega
section
variable {P : Program} {w : World} {A : Around} {E : Value → Shared → Prop} {s : Shared}
theorem Ts.mv {h h' : Heap} {a : Addr} {L : List (Addr × List Key)} {es : Array (Int × Value)} {ep : Nat} {t : SetTable} (R : Ts P w h a L es ep t) (k1 : ∀ o, h.get? a = some o → h'.get? a = some o) (k2 : ∀ p ∈ L, IsM P w h' p.2 p.1) : Ts P w h' a L es ep t :=
  let ⟨o, e, r⟩ := R.ob
  ⟨⟨o, k1 o e, r⟩, R.rw_, R.tw, R.un, k2, R.ld, R.rm⟩
def newSet (w : World) : Obj := { cls := .type "set", dict := none, data := .set #[] 0 (.fresh 0 0 (!w.params.followText "set-order")) }
theorem ts_new {h : Heap} {a : Addr} (e : h.get? a = some (newSet w)) : Ts P w h a [] #[] 0 (.fresh 0 0 (!w.params.followText "set-order")) where
  ob := ⟨_, e, ⟨rfl, rfl, rfl⟩, rfl⟩
  rw_ := rfl
  tw := ⟨List.Pairwise.nil, rfl, rfl, ⟨3, by decide, by decide, rfl⟩, fun x hx => (by cases hx), fun i h j hi => (by simp at hi)⟩
  un := List.nodup_nil
  ks := fun p hp => (by cases hp)
  ld := by
    show _ ∨ (!w.params.followText "set-order") = true
    cases w.params.followText "set-order" with
    | true => exact .inl rfl
    | false => exact .inr rfl
  rm := by show 0 * 5 < 7 * 3; decide
/-- the loop of set.update -/
theorem upd_loop {I : Addr} {fp wr : List Addr} {G : Array GenState → Array GenState → Prop} {n : Nat} {Pv : Nat → Value → Prop} {St : Nat → Shared → Prop} {R : Result → Shared → Prop} (W : WalksS P w A.in1 I fp wr G n Pv St) (S : Addr) (nf : S ∉ fp)
    (ks : List (Addr × List Key)) (en : n = ks.length) (few : ks.length ≤ 2000) (vals : ∀ i v, Pv i v → ∃ p, ks[i]? = some p ∧ v = .ref p.1) (h0 : Heap) (hk : ∀ p ∈ ks, IsM P w h0 p.2 p.1) (hS : h0.get? S = none) (hw : ∀ b ∈ wr, h0.get? b = none) (hu : A.in1.units < cLine) :
    ∀ (c i : Nat) (s : Shared), n - i = c → i ≤ n → St i s → (∀ b o, h0.get? b = some o → s.heap.get? b = some o) → (∃ L es ep t, Ts P w s.heap S L es ep t ∧ Gm ks i L) →
      (∀ s' L es ep t, Moved (S :: wr) G s s' → Ts P w s'.heap S L es ep t → Gm ks n L → (∀ b o, h0.get? b = some o → s'.heap.get? b = some o) → R (.ok (.ret .none)) s') →
      codeAny (model P w) A (.builtin "set.update.loop" ⟨[.ref S, .ref I], []⟩) R s := by
  have nw : S ∉ wr := fun z => nf (W.sub _ z)
  have old : ∀ {s s' : Shared}, Moved wr G s s' → (∀ b o, h0.get? b = some o → s.heap.get? b = some o) → ∀ b o, h0.get? b = some o → s'.heap.get? b = some o := fun mv k b o e => mv.heap b o (fun z => by rw [hw b z] at e; cases e) (k b o e)
  have wide : ∀ b ∈ wr, b ∈ S :: wr := fun b z => List.mem_cons.mpr (.inr z)
  intro c
  induction c with
  | zero =>
    intro i s ec hi st k ⟨L, es, ep, t, R0, g⟩ q
    obtain rfl : i = n := by omega
    refine codeAny_builtin F.entry_set_update_loop ?_
    rw [Around.under_plainId F.plain_set_update_loop _]
    refine wpAny_bind (show wpAny _ A.in1 (pyNext (.ref I)) _ _ s from W.done s _ _ st fun s' mv => ?_)
    have k' := old mv k
    refine show wpAny _ A.in1 (ret Value.none) _ _ s' from wpAny_pure (q s' L es ep t (mv.mono wide) (R0.mv (fun o e => mv.heap S o nw e) fun p hp => (hk p (List.mem_of_mem_take (g.fr p hp))).all k') g k')
  | succ c ih =>
    intro i s ec hi st k ⟨L, es, ep, t, R0, g⟩ q
    have lt : i < n := by omega
    refine codeAny_builtin F.entry_set_update_loop ?_
    rw [Around.under_plainId F.plain_set_update_loop _]
    refine wpAny_bind (show wpAny _ A.in1 (pyNext (.ref I)) _ _ s from W.item i s _ _ lt st fun v s' pv st' mv => ?_)
    obtain ⟨p, e, rfl⟩ := vals i v pv
    have k' := old mv k
    have R1 : Ts P w s'.heap S L es ep t := R0.mv (fun o e => mv.heap S o nw e) fun z hz => (hk z (List.mem_of_mem_take (g.fr z hz))).all k'
    have hx : IsM P w s'.heap p.2 p.1 := (hk p (List.mem_of_getElem? e)).all k'
    refine wpAny_bind (show wpAny _ A.in1 (holding [Value.ref p.1] (setAdd S (.ref p.1))) _ _ s' from wpAny_holding ?_)
    unfold setAdd
    refine wpAny_holding (wpAny_bind (wpAny_pyHash_tuple hu hx ?_))
    refine add_of (s := { s' with toks := s'.toks + (p.2.length + 1) }) R1 hx hu (by have := g.le; omega) fun b h' L' es' ep' t' sb R2 c1 c2 => ?_
    have g' : Gm ks (i + 1) L' := by
      rcases Classical.em (p.2 ∈ L.map (·.2)) with z | z
      · rw [c1 z]; exact g.skip e z
      · exact g.take e (c2 z)
    have k2 : ∀ b o, h0.get? b = some o → h'.get? b = some o := fun b o z => (sb.2 b fun y => by rw [y, hS] at z; cases z).trans (k' b o z)
    refine wpAny_pure ⟨plainId_quiet F.plain_set_update_loop _, ih (i + 1) _ (by omega) lt (W.frame _ s' _ _ st' (Nat.le_add_right _ _) fun b hb o z => (sb.2 b fun y => nf (y ▸ hb)).trans z) k2 ⟨L', es', ep', t', R2, g'⟩ fun s2 L2 es2 ep2 t2 mv2 R3 g2 k3 => ?_⟩
    refine q s2 L2 es2 ep2 t2 (Moved.trans W.gtrans ((mv.mono wide).then_heap (Nat.le_add_right _ _) fun b o hb z => ?_) mv2) R3 g2 k3
    exact (sb.2 b fun y => hb (y ▸ List.mem_cons.mpr (.inl rfl))).trans z
/-- what is handed to set -/
inductive Src (h : Heap) (l : Addr) (its : Array Value) : Prop where
  | lst (e : h.IsList l its)
  | tup (e : h.IsTuple l its)
theorem Src.lt {h : Heap} {l : Addr} {its : Array Value} : Src h l its → l < h.objs.size
  | .lst ⟨_, e, _⟩ => Heap.lt_size e
  | .tup ⟨_, e, _⟩ => Heap.lt_size e
/-- set(xs) -/
theorem set_of {l : Addr} {its : Array Value} (ks : List (Addr × List Key)) {Q : Value → Shared → Prop} (hh : A.handled = none) (sr : Src s.heap l its) (hi : its.toList = ks.map fun p => Value.ref p.1) (hk : ∀ p ∈ ks, IsM P w s.heap p.2 p.1) (few : ks.length ≤ 2000) (hu : A.units + 3 < cLine)
    (q : ∀ (h' : Heap) (tk : Nat) L es ep t, Ts P w h' s.heap.objs.size L es ep t → Gm ks ks.length L → (∀ b o, s.heap.get? b = some o → h'.get? b = some o) → Q (.ref s.heap.objs.size) { s with heap := h', toks := tk }) :
    wpAny (model P w) A (call (.type "set") [.ref l]) Q E s := by
  have isz : its.size = ks.length := by
    have := congrArg List.length hi
    simpa using this
  have fresh : ∀ b, s.heap.objs.size ≤ b → s.heap.get? b = none := fun b hb => by
    cases z : s.heap.get? b with
    | none => rfl
    | some o => exact absurd (Heap.lt_size z) (Nat.not_lt.mpr hb)
  have vals : ∀ (i : Nat) (v : Value), its[i]? = some v → ∃ p, ks[i]? = some p ∧ v = .ref p.1 := fun i v hv => by
    rw [← Array.getElem?_toList, hi, List.getElem?_map] at hv
    obtain ⟨p, e1, e2⟩ := Option.map_eq_some_iff.mp hv
    exact ⟨p, e1, e2.symm⟩
  have lt := sr.lt
  obtain ⟨c, tl, hmro⟩ := F.called_set.mro
  have g1 := F.called_set.made
  have g2 := F.called_set.sub
  have g3 := F.called_set.notType
  have g4 := F.called_set.canCreate
  have g5 := F.typeCall_set_1 (.ref l)
  refine wpAny_call (codeAny_of_tree (show wpAny _ _ (callAny (.type "set") _) _ _ _ from wpAny_pure ⟨Code.quiet_builtin _ (by decide +kernel), codeAny_builtin F.entry_type_call ?_⟩))
  rw [Around.under_plain (weight_type_call_type "set" [.ref l] []) rfl]
  repeat (any_goals (first | assumption | wp_step))
  refine codeAny_mono (code_set_led1 (.ref l) (E := E) (Q₁ := fun obj s₁ => obj = .ref s.heap.objs.size ∧ s₁ = { s with heap := s.heap.push (newSet w) }) ⟨rfl, rfl⟩) fun r s₁ hr => ?_
  cases r with
  | error e => exact hr
  | ok fl =>
    cases fl with
    | ret obj =>
      obtain ⟨rfl, rfl⟩ := hr
      have at0 : (s.heap.push (newSet w)).get? s.heap.objs.size = some (newSet w) := Heap.get?_push_size _ rfl
      have ty : Shared.TypeIs { s with heap := s.heap.push (newSet w) } (.ref s.heap.objs.size) "set" := ⟨_, at0, rfl⟩
      have i1 := F.called_set.init.lookup
      have i2 := F.called_set.init.bind (.ref s.heap.objs.size)
      repeat (any_goals (first | assumption | wp_step))
      refine codeAny_mono (codeAny_call_builtin (R := wants (fun r s₂ => r = .none ∧ ∃ h' tk L es ep t, s₂ = { s with heap := h', toks := tk } ∧ Ts P w h' s.heap.objs.size L es ep t ∧ Gm ks ks.length L ∧ (∀ b o, s.heap.get? b = some o → h'.get? b = some o)) E) F.called_set.init.plain F.entry_set_init (check_set_init_1 ty ?_)) fun r₂ s₂ hr₂ => ?_
      · have z1 : (s.heap.push (newSet w)).objs.size = s.heap.objs.size + 1 := Heap.size_push ..
        have hh3 : A.in1.in1.in1.handled = none := by simp [hh]
        have ne1 : l ≠ (s.heap.push (newSet w)).objs.size := Nat.ne_of_lt (by rw [z1]; exact Nat.lt_succ_of_lt lt)
        have nf : s.heap.objs.size ∉ [(s.heap.push (newSet w)).objs.size, l] := by
          simp only [List.mem_cons, List.not_mem_nil, or_false, not_or]
          exact ⟨Nat.ne_of_lt (by rw [z1]; exact Nat.lt_succ_self _), Nat.ne_of_gt lt⟩
        have start : ∀ itr : Obj, (∃ L es ep t, Ts P w ((s.heap.push (newSet w)).push itr) s.heap.objs.size L es ep t ∧ Gm ks 0 L) := fun itr =>
          ⟨[], #[], 0, _, ts_new (Heap.get?_push_of_some _ at0), fun p hp => (by cases hp), fun p hp => (by simp at hp), Nat.le_refl _⟩
        have wr0 : ∀ b ∈ [(s.heap.push (newSet w)).objs.size], s.heap.get? b = none := fun b hb => fresh b (by rw [List.mem_singleton.mp hb]; omega)
        have fin : ∀ {wr : List Addr} {itr : Obj} {tk : Nat} (s' : Shared) (L : List (Addr × List Key)) (es : Array (Int × Value)) (ep : Nat) (t : SetTable), Moved wr (fun a b => b = a) { s with heap := (s.heap.push (newSet w)).push itr, toks := tk } s' → Ts P w s'.heap s.heap.objs.size L es ep t → Gm ks its.size L → (∀ b o, s.heap.get? b = some o → s'.heap.get? b = some o) →
            (Value.none : Value) = .none ∧ ∃ h' tk L es ep t, s' = { s with heap := h', toks := tk } ∧ Ts P w h' s.heap.objs.size L es ep t ∧ Gm ks ks.length L ∧ (∀ b o, s.heap.get? b = some o → h'.get? b = some o) := fun s' L es ep t mv R0 g k => by
          obtain ⟨h', gn, dr, tk', os'⟩ := s'
          have e1 : gn = s.gens := mv.gens
          have e2 : dr = s.drawn := mv.drawn
          have e3 : os' = s.os := mv.os
          subst e1 e2 e3
          rw [isz] at g
          exact ⟨rfl, h', tk', L, es, ep, t, rfl, R0, g, k⟩
        cases sr with
        | lst e0 =>
          obtain ⟨ol, l1, l2, l3, l4⟩ := e0
          obtain ⟨ocls, odict, odata, oslots⟩ := ol
          simp only at l2 l4
          subst l2 l4
          have at1 : (s.heap.push (newSet w)).get? l = some { cls := .type "list", dict := odict, data := .seq its l3, slots := oslots } := Heap.get?_push_of_some _ l1
          have n1 := F.sub_list_set
          have n2 := F.sub_list_frozenset
          have n3 : (Value.type "list" == Value.type "dict") = false := by decide
          have isl : (s.heap.push (newSet w)).IsList l its := ⟨_, at1, rfl, l3, rfl⟩
          unfold Builtin.«set.__init__» noKeywords Builtin.Frozenset.updateFrom
          generalize hPI : pyIter = PI
          wp_walk
          subst hPI
          refine wpAny_pyIter_list isl (wpAny_bind (wpAny_runValue ?_))
          refine upd_loop ((Walks.list hh3 _ l ne1 its).toS) s.heap.objs.size nf ks isz few vals s.heap hk (fresh _ (Nat.le_refl _)) wr0 hu (its.size - 0) 0 _ (by omega) (Nat.zero_le _)
            ⟨⟨_, Heap.get?_push_size _ rfl, rfl, rfl⟩, isl.push _⟩ (fun b o e => Heap.get?_push_of_some _ (Heap.get?_push_of_some _ e)) (start _) fun s' L es ep t mv R0 g k => ?_
          exact wpAny_pure (show wpAny _ _ (ret Value.none) _ _ _ from wpAny_pure (fin s' L es ep t mv R0 g k))
        | tup e0 =>
          obtain ⟨ol, l1, l2, l3, l4⟩ := e0
          obtain ⟨ocls, odict, odata, oslots⟩ := ol
          simp only at l2 l4
          subst l2 l4
          have at1 : (s.heap.push (newSet w)).get? l = some { cls := .type "tuple", dict := odict, data := .seq its l3, slots := oslots } := Heap.get?_push_of_some _ l1
          have n1 := F.sub_tuple_set
          have n2 := F.sub_tuple_frozenset
          have n3 : (Value.type "tuple" == Value.type "dict") = false := by decide
          have isl : (s.heap.push (newSet w)).IsTuple l its := ⟨_, at1, rfl, l3, rfl⟩
          unfold Builtin.«set.__init__» noKeywords Builtin.Frozenset.updateFrom
          generalize hPI : pyIter = PI
          wp_walk
          subst hPI
          refine wpAny_pyIter_tuple isl (wpAny_bind (wpAny_runValue ?_))
          refine upd_loop ((Walks.tuple hh3 _ l ne1 its).toS) s.heap.objs.size nf ks isz few vals s.heap hk (fresh _ (Nat.le_refl _)) wr0 hu (its.size - 0) 0 _ (by omega) (Nat.zero_le _)
            ⟨⟨_, Heap.get?_push_size _ rfl, rfl, rfl⟩, isl.push _⟩ (fun b o e => Heap.get?_push_of_some _ (Heap.get?_push_of_some _ e)) (start _) fun s' L es ep t mv R0 g k => ?_
          exact wpAny_pure (show wpAny _ _ (ret Value.none) _ _ _ from wpAny_pure (fin s' L es ep t mv R0 g k))
      · cases r₂ with
        | error e => exact hr₂
        | ok fl₂ =>
          cases fl₂ with
          | ret r =>
            obtain ⟨rfl, h', tk, L, es, ep, t, rfl, R0, g, k⟩ := hr₂
            repeat (any_goals (first | assumption | wp_step))
            exact q _ _ _ _ _ _ R0 g k
          | _ => exact hr₂.elim
    | _ => exact hr.elim
end
end Sr

set_option Elab.async false
set_option linter.all false
set_option maxRecDepth 100000
set_option autoImplicit false
set_option maxHeartbeats 1000000
/-! SrT6: len(set(xs)). -/
namespace Sr
open PySem PySem.Spec PyProof.Rows L2
theorem items_keys {P : Program} {w : World} : ∀ {k : List Key} {us : List Value}, Vals (k.map kV) us → ItemsAre (mixKind P w) k us
  | [], _, .nil => .nil
  | c :: k, _, .cons r t => by
    refine .cons ?_ (items_keys t)
    cases c with
    | inl i =>
      obtain ⟨tk, rfl⟩ := r
      exact mixKind_int P w i tk
    | inr x =>
      obtain ⟨tk, rfl⟩ := r
      exact mixKind_str P w x tk
section
variable {X : Cx} {pins : List (Addr × Obj)} {σ : L2.St} {H : Hp} {s : Shared}
theorem isM_of (I : Inv X pins σ H s) {b : Addr} {k : List Key} (e : H b = some (.tup (k.map kV))) : IsM X.prog X.w s.heap k b := by
  obtain ⟨its, r, ⟨o, h1, h2, n, h3⟩, _⟩ := I.tuple (.of e)
  exact ⟨o, its.toArray, n, h1, h2, h3, by simpa using items_keys r⟩
theorem rows_of {H : Hp} : ∀ {kss : List (List Key)} {vs : List V}, Rps H (kss.map keyT) vs → ∃ ks : List (Addr × List Key), ks.map (·.2) = kss ∧ vs = ks.map (fun p => V.ref p.1) ∧ ∀ p ∈ ks, H p.1 = some (.tup (p.2.map kV))
  | [], _, r => by cases r; exact ⟨[], rfl, rfl, fun p hp => (by cases hp)⟩
  | k :: kss, _, ⟨v, vs, rfl, r, q⟩ => by
    obtain ⟨a, xs, rfl, e, rs⟩ := r
    cases rps_keys rs
    obtain ⟨ks, rfl, rfl, al⟩ := rows_of q
    refine ⟨(a, k) :: ks, rfl, rfl, fun p hp => ?_⟩
    rcases List.mem_cons.mp hp with z | z
    · rw [z]; exact e
    · exact al p z
theorem refs_vals : ∀ {ks : List (Addr × List Key)} {us : List Value}, Vals (ks.map fun p => V.ref p.1) us → us = ks.map fun p => Value.ref p.1
  | [], _, .nil => rfl
  | p :: ks, _, .cons r t => by rw [List.map_cons, ← refs_vals t]; cases r; rfl
/-- a list or a tuple of such tuples, as it stands -/
theorem src_of {K : PySem.W.Frag} (eK : X.K = K) (I : Inv X pins σ H s) {h : Hc} (rh : RH K H h) {x : D} {v : V} {u : Value} {kss : List (List Key)} (rv : Rp H x v) (ru : RelV v u) (sq : Sq h x (kss.map keyT)) :
    ∃ (l : Addr) (ks : List (Addr × List Key)) (its : Array Value), u = .ref l ∧ Src s.heap l its ∧ its.toList = ks.map (fun p => Value.ref p.1) ∧ ks.map (·.2) = kss ∧ ∀ p ∈ ks, IsM X.prog X.w s.heap p.2 p.1 := by
  obtain ⟨p, vs, rfl, src, rs⟩ := sq_of rh rv sq
  cases ru
  obtain ⟨ks, e1, rfl, al⟩ := rows_of rs
  subst eK
  rcases src with src | src
  · obtain ⟨its, r, pl, _⟩ := I.list src
    exact ⟨p, ks, its.toArray, rfl, .lst pl.isList, by simpa using refs_vals r, e1, fun q hq => isM_of I (al q hq)⟩
  · obtain ⟨its, r, pl, _⟩ := I.tuple src
    exact ⟨p, ks, its.toArray, rfl, .tup (show s.heap.IsTuple p its.toArray from pl), by simpa using refs_vals r, e1, fun q hq => isM_of I (al q hq)⟩
end
section
variable {X : Cx} {q : Cq} {M : Md} {a : Expr} {ma : E}
theorem x_lenset {p p2 pos pos2 : Pos} (hK : X.K = q.K) (hc : X.calm = true) (hu : X.A.units + 200 < cLine) (hg : Gl X "len") (hm : X.mg "len" = none) (hg2 : Gl X "set") (hm2 : X.mg "set" = none) (ha : PE X a (low q (wpE M ma)))
    (na : starEach [a] X.env = (false, eval a X.env) :: starEach [] X.env) : PE X (.Call (.Name "len" p) [.Call (.Name "set" p2) [a] [] pos2] [] pos) (low q (wpE M (.bi .lenset (.cons ma .nil)))) := by
  refine ⟨fun pins s σ H Q I w => ?_⟩
  obtain ⟨c, h, Qc, Xc, rs, rh, k, qq, qx⟩ := w
  refine Call_ (ld_blt I hg hm PySem.boot_len ?_)
  refine PyProof.Rows.callWith_builtin1 (PyProof.Rows.args_cons ?_ rfl) rfl rfl
  refine Call_ (ld_blt I hg2 hm2 PyProof.Rows.boot_set ?_)
  refine PyProof.Rows.callWith_type1 (PyProof.Rows.args_cons (thn (ha.run pins s σ H (fun v H1 => ∃ d h1, Rp H1 d v ∧ RH q.K H1 h1 ∧ Ext H H1 ∧ wpBi .lenset [d] h1 Qc) I ⟨c, h, _, Xc, rs, rh, k, fun d h1 v H1 k1 r1 rh1 x1 => ⟨d, h1, r1, rh1, x1, k1⟩, qx⟩) fun u s1 ⟨v, H1, I1, ru, d, h1, r1, rh1, x1, k1⟩ => PyProof.Rows.args_nil ?_) na) na rfl
  obtain ⟨x, ys, kss, ex, sq, rfl, few, fin⟩ := k1
  cases ex
  obtain ⟨l, ks, its, rfl, sr, hi, e1, hk⟩ := src_of hK I1 rh1 r1 ru sq
  have e2 : ks.length = kss.length := by rw [← e1, List.length_map]
  refine set_of ks (I1.ok.hd hc) sr hi hk (by omega) (by omega) fun h' tk L es ep t R g kp => ?_
  refine PyProof.Rows.args_nil ?_
  obtain ⟨o, ho, hex, hd⟩ := R.ob
  have I2 : Inv X pins σ H1 { s1 with heap := h', toks := tk } := I1.kept kp
  have sz : es.size = L.length := rows_size R.rw_
  have le := g.le
  have mem : ∀ z, z ∈ L.map (·.2) ↔ z ∈ kss := fun z => by
    rw [← e1]
    constructor
    · intro m
      obtain ⟨p, m1, rfl⟩ := List.mem_map.mp m
      exact List.mem_map.mpr ⟨p, List.mem_of_mem_take (g.fr p m1), rfl⟩
    · intro m
      obtain ⟨p, m1, rfl⟩ := List.mem_map.mp m
      exact g.al p (by rw [List.take_length]; exact m1)
  obtain ⟨h2, sb, k2⟩ := fin (L.map (·.2)) R.un mem
  rw [List.length_map] at k2
  refine call_len_set ho hex hd (Ts.fit (s := { s1 with heap := h', toks := tk }) R) (by rw [sz]; omega) ⟨.int L.length, H1, I2.tok _, ⟨_, by rw [sz]⟩, ?_⟩
  exact qq _ _ _ _ k2 rfl (rh1.sub sb) x1
end
end Sr

set_option Elab.async false
set_option linter.all false
set_option maxRecDepth 100000
set_option autoImplicit false
set_option maxHeartbeats 1000000
/-! SrT7: sorted(set(xs)) of mixed tuples. -/
namespace Sr
open PySem PySem.Spec PyProof.Rows L2 SrtO
/-! ### the order -/
theorem ltK_asym {a b : Key} (h : ltK a b = true) : ltK b a = false := by
  cases a <;> cases b
  · simp only [ltK, decide_eq_true_eq, decide_eq_false_iff_not] at *; omega
  · rfl
  · exact nomatch (show false = true from h)
  · simp only [ltK, decide_eq_true_eq, decide_eq_false_iff_not] at *
    exact List.lt_asymm h
theorem ltK_tri {a b : Key} (h1 : ltK a b = false) (h2 : ltK b a = false) : a = b := by
  cases a <;> cases b
  · simp only [ltK, decide_eq_false_iff_not] at *
    exact congrArg Sum.inl (by omega)
  · exact nomatch (show true = false from h1)
  · exact nomatch (show true = false from h2)
  · rename_i x y
    simp only [ltK, decide_eq_false_iff_not] at *
    have : x.cps.toList = y.cps.toList := List.le_antisymm (List.not_lt.mp h2) (List.not_lt.mp h1)
    obtain ⟨u⟩ := x
    obtain ⟨v⟩ := y
    exact congrArg Sum.inr (congrArg PySem.Str.mk (Array.toList_inj.mp this))
theorem ltK_tr {a b c : Key} (h1 : ltK a b = true) (h2 : ltK b c = true) : ltK a c = true := by
  cases a <;> cases b <;> cases c <;> first
    | exact nomatch (show false = true from h1)
    | exact nomatch (show false = true from h2)
    | rfl
    | (simp only [ltK, decide_eq_true_eq] at *; omega)
    | (simp only [ltK, decide_eq_true_eq] at *; exact List.lt_trans h1 h2)
theorem lexK_asym : ∀ {a b : List Key}, lexK a b = true → lexK b a = false
  | [], [], _ => rfl
  | [], _ :: _, _ => rfl
  | _ :: _, [], h => nomatch (show false = true from h)
  | a :: r, b :: t, h => by
    unfold lexK at h ⊢
    by_cases e : a = b
    · rw [if_pos e] at h
      rw [if_pos e.symm]
      exact lexK_asym h
    · rw [if_neg e] at h
      rw [if_neg (Ne.symm e)]
      exact ltK_asym h
theorem lexK_tri : ∀ {a b : List Key}, lexK a b = false → lexK b a = false → a = b
  | [], [], _, _ => rfl
  | [], _ :: _, h, _ => nomatch (show true = false from h)
  | _ :: _, [], _, h => nomatch (show true = false from h)
  | a :: r, b :: t, h1, h2 => by
    unfold lexK at h1 h2
    by_cases e : a = b
    · rw [if_pos e] at h1
      rw [if_pos e.symm] at h2
      rw [e, lexK_tri h1 h2]
    · rw [if_neg e] at h1
      rw [if_neg (Ne.symm e)] at h2
      exact absurd (ltK_tri h1 h2) e
theorem lexK_tr : ∀ {a b c : List Key}, lexK a b = true → lexK b c = true → lexK a c = true
  | [], _ :: _, _ :: _, _, _ => rfl
  | [], [], _, h, _ => nomatch (show false = true from h)
  | _ :: _, [], _, h, _ => nomatch (show false = true from h)
  | _, _ :: _, [], _, h => nomatch (show false = true from h)
  | a :: r, b :: t, c :: u, h1, h2 => by
    unfold lexK at h1 h2 ⊢
    by_cases e : a = b
    · subst e
      rw [if_pos rfl] at h1
      by_cases e2 : a = c
      · rw [if_pos e2] at h2 ⊢
        exact lexK_tr h1 h2
      · rw [if_neg e2] at h2 ⊢
        exact h2
    · rw [if_neg e] at h1
      by_cases e2 : b = c
      · subst e2
        rw [if_neg e]
        exact h1
      · rw [if_neg e2] at h2
        have h3 := ltK_tr h1 h2
        by_cases e3 : a = c
        · subst e3
          rw [ltK_asym h1] at h2
          cases h2
        · rw [if_neg e3]
          exact h3
theorem swoK (k : Value → List Key) : Swo fun v u => lexK (k v) (k u) where
  asym := fun x y h => lexK_asym h
  tr := fun x y z h1 h2 => by
    cases h3 : lexK (k z) (k x) with
    | false => rfl
    | true =>
      cases h4 : lexK (k x) (k y) with
      | true => exact absurd (lexK_tr h3 h4) (by rw [h2]; decide)
      | false =>
        have e := lexK_tri h4 h1
        rw [e] at h3
        rw [h3] at h2
        cases h2
/-! ### comparing -/
section
variable {P : Program} {w : World} {A : Around} {E : Value → Shared → Prop} {s : Shared}
theorem eq_keys {k c : Key} {v u : Value} (hv : (mixKind P w).is k v = true) (hu : (mixKind P w).is c u = true) {Q : Bool → Shared → Prop} (q : Q (decide (k = c)) s) : wpAny (model P w) A (eqBool v u) Q E s :=
  (mixKind P w).eqBool hv hu q
theorem lt_keys {k c : Key} {v u : Value} (first : Bool) (hv : (mixKind P w).is k v = true) (hu : (mixKind P w).is c u = true) (same : isI k = isI c) (f : first = true → isI k = true) {Q : Bool → Shared → Prop} (q : Q (ltK k c) s) : wpAny (model P w) A (oneLt' first v u) Q E s := by
  rcases keyIs_shape hv with ⟨i, t, rfl, rfl⟩ | ⟨x, t, rfl, rfl⟩
  · rcases keyIs_shape hu with ⟨j, t2, rfl, rfl⟩ | ⟨y, t2, rfl, rfl⟩
    · exact TS.oneLt_ints first q
    · exact nomatch (show true = false from same)
  · rcases keyIs_shape hu with ⟨j, t2, rfl, rfl⟩ | ⟨y, t2, rfl, rfl⟩
    · exact nomatch (show false = true from same)
    · cases first with
      | true => exact nomatch (show false = true from f rfl)
      | false => exact PySem.W.kat_one _ _ (PyProof.Rows.lt_str q)
theorem lex_of (fin : Bool) : ∀ {a b : List Key} {us vs : List Value} (i : Nat) {Q : Bool → Shared → Prop}, ItemsAre (mixKind P w) a us → ItemsAre (mixKind P w) b vs → a.map isI = b.map isI → (i = 0 → (a.map isI).head? = some true) → fin = false → Q (lexK a b) s → PySem.W.KatLex P w A true fin Q (us.zip vs) i s
  | [], [], _, _, i, Q, .nil, .nil, _, _, ef, q => by
    rw [ef]
    exact PySem.W.kat_nil q
  | [], _ :: _, _, _, _, _, _, _, e, _, _, _ => by cases e
  | _ :: _, [], _, _, _, _, _, _, e, _, _, _ => by cases e
  | a :: r, b :: t, _, _, i, Q, .cons h1 t1, .cons h2 t2, e, hd, ef, q => by
    rw [List.map_cons, List.map_cons, List.cons.injEq] at e
    refine PySem.W.kat_cons (eq_keys h1 h2 (PySem.W.kat_go (fun y => ?_) fun n => ?_))
    · have y : a = b := of_decide_eq_true y
      unfold lexK at q
      rw [if_pos y] at q
      exact PySem.W.kat_yes (lex_of fin (i + 1) t1 t2 e.2 (fun z => by omega) ef q)
    · have n : a ≠ b := of_decide_eq_false n
      unfold lexK at q
      rw [if_neg n] at q
      refine PySem.W.kat_no (lt_keys _ h1 h2 e.1 (fun z => ?_) q)
      have : i = 0 := by simpa using z
      have := hd this
      simpa using this
theorem items_len {a : List Key} {us : List Value} (h : ItemsAre (mixKind P w) a us) : us.length = a.length := by
  induction h with
  | nil => rfl
  | cons _ _ ih => rw [List.length_cons, List.length_cons, ih]
theorem cmp_tups {vs : List Value} {kf : Value → List Key} {pt : List Bool} (hv : ∀ v ∈ vs, ∃ b, v = Value.ref b ∧ IsM P w s.heap (kf v) b ∧ (kf v).map isI = true :: pt) : Cmp P w A s (tuples' true) (fun p => p.1 ∈ vs) (lt2 fun v u => lexK (kf v) (kf u)) := by
  intro p r hp hr
  obtain ⟨b, e1, ⟨o1, i1, n1, g1, _, d1, k1⟩, s1⟩ := hv _ hp
  obtain ⟨c, e2, ⟨o2, i2, n2, g2, _, d2, k2⟩, s2⟩ := hv _ hr
  show wpAny (model P w) A (keyLt' (tuples' true) p.1 r.1) (fun x s' => s' = s ∧ x = lexK (kf p.1) (kf r.1)) (fun _ _ => False) s
  generalize kf p.1 = a1 at k1 s1 ⊢
  generalize kf r.1 = a2 at k2 s2 ⊢
  rw [e1, e2]
  refine PySem.W.kat_lt g1 d1 g2 d2 (lex_of _ 0 k1 k2 (s1.trans s2.symm) (fun _ => by rw [s1]; rfl) ?_ ⟨rfl, rfl⟩)
  have l1 := items_len k1
  have l2 := items_len k2
  have l3 : a1.length = a2.length := by
    have := congrArg List.length (s1.trans s2.symm)
    simpa using this
  rw [Array.length_toList] at l1 l2
  rw [l1, l2, l3]
  simp
theorem firsts_tups : ∀ {vs : List Value} {kf : Value → List Key} {pt : List Bool}, (∀ v ∈ vs, ∃ b, v = Value.ref b ∧ IsM P w s.heap (kf v) b ∧ (kf v).map isI = true :: pt) → ∃ fs, PySem.W.KatTups s.heap vs fs ∧ fs.length = vs.length ∧ ∀ f ∈ fs, ∃ i t, f = Value.int i t
  | [], _, _, _ => ⟨[], .nil, rfl, fun f hf => by cases hf⟩
  | v :: vs, kf, pt, hv => by
    obtain ⟨fs, h1, h2, h3⟩ := firsts_tups fun u hu => hv u (List.mem_cons.mpr (.inr hu))
    obtain ⟨b, rfl, ⟨o, its, n, g, c, d, k⟩, sh⟩ := hv v (List.mem_cons.mpr (.inl rfl))
    generalize kf (Value.ref b) = a at k sh
    cases a with
    | nil => cases sh
    | cons x r =>
      obtain ⟨its⟩ := its
      cases k with
      | @cons _ f _ us e t =>
        rw [List.map_cons, List.cons.injEq] at sh
        rcases keyIs_shape e with ⟨i, tk, rfl, rfl⟩ | ⟨z, tk, rfl, _⟩
        · refine ⟨.int i tk :: fs, .cons g c d (by simp) h1, by rw [List.length_cons, List.length_cons, h2], fun f hf => ?_⟩
          rcases List.mem_cons.mp hf with y | y
          · exact ⟨i, tk, y⟩
          · exact h3 f y
        · exact nomatch (show false = true from sh.1)
theorem sortable {a : Addr} {vs : List Value} {kf : Value → List Key} {pt : List Bool} (h0 : 0 < vs.length) (hv : ∀ v ∈ vs, ∃ b, v = Value.ref b ∧ IsM P w s.heap (kf v) b ∧ (kf v).map isI = true :: pt) (ha : ∀ o, s.heap.get? a = some o → o.cls ≠ .type "tuple") :
    SortableO P w A s a vs fun v u => lexK (kf v) (kf u) := by
  intro h' keep
  have hv' : ∀ v ∈ vs, ∃ b, v = Value.ref b ∧ IsM P w h' (kf v) b ∧ (kf v).map isI = true :: pt := fun v hm => by
    obtain ⟨b, e, ⟨o, its, n, g, c, d, k⟩, sh⟩ := hv v hm
    exact ⟨b, e, ⟨o, its, n, keep b o (fun z => ha o (z ▸ g) c) g, c, d, k⟩, sh⟩
  obtain ⟨fs, f1, f2, f3⟩ := firsts_tups (s := { s with heap := h' }) hv'
  refine ⟨tuples' true, fun Q E hq => PySem.W.kat_kind (T := .type "int") f1 (by omega) (fun f hm => ?_) (by rfl) ?_, cmp_tups (s := { s with heap := h' }) hv'⟩
  · obtain ⟨i, t, rfl⟩ := f3 f hm
    exact PySem.W.Looks.now
  · have : (Value.type "int" != Value.type "tuple") = true := by decide +kernel
    rw [this]
    exact hq
/-! ### sorted -/
/-- the values are rows, in some order -/
theorem rows_any {L : List (Addr × List Key)} : ∀ {vs : List Value}, (∀ v ∈ vs, ∃ z ∈ L, v = Value.ref z.1) → ∃ L1 : List (Addr × List Key), vs = L1.map (fun z => Value.ref z.1) ∧ ∀ z ∈ L1, z ∈ L
  | [], _ => ⟨[], rfl, fun z hz => by cases hz⟩
  | v :: vs, h => by
    obtain ⟨L1, e1, h1⟩ := rows_any fun u hu => h u (List.mem_cons.mpr (.inr hu))
    obtain ⟨z, hz, rfl⟩ := h v (List.mem_cons.mpr (.inl rfl))
    refine ⟨z :: L1, by rw [List.map_cons, ← e1], fun y hy => ?_⟩
    rcases List.mem_cons.mp hy with e | e
    · rw [e]; exact hz
    · exact h1 y e
theorem sorted_of {a : Addr} {L : List (Addr × List Key)} {es : Array (Int × Value)} {ep : Nat} {t : SetTable} {pt : List Bool} {Q : Value → Shared → Prop} (R : Ts P w s.heap a L es ep t) (hh : A.handled = none) (few : L.length ≤ 2000) (sh : ∀ z ∈ L, z.2.map isI = true :: pt)
    (q : ∀ (s' : Shared) (p : Addr) (out : Array Value) (c : Nat) (L' : List (Addr × List Key)), (∀ b o, s.heap.get? b = some o → s'.heap.get? b = some o) → s'.gens = s.gens → s'.os = s.os → s.heap.objs.size ≤ p →
      s'.heap.get? p = some (seqObj "list" out c) → out.toList = L'.map (fun z => Value.ref z.1) → L'.Perm L → L'.Pairwise (fun y z => lexK z.2 y.2 = false) → Q (.ref p) s') : wpAny (model P w) A (call (.builtin "sorted") [.ref a]) Q E s := by
  obtain ⟨o, ho, hex, hd⟩ := R.ob
  have sz := R.sz
  have line : (16384 : Nat) ≤ sizeLine := by rw [sizeLine_eq]; decide
  have one : ∀ y ∈ L, ∀ z ∈ L, y.1 = z.1 → y = z := fun y hy z hz e => by
    have k1 := R.ks y hy
    have k2 := R.ks z hz
    rw [e] at k1
    exact Prod.ext e (k1.inj k2)
  have ndL : L.Nodup := nodup_of_map R.un
  have ndA : (L.map fun z => Value.ref z.1).Nodup := List.pairwise_map.mpr (List.Pairwise.imp_of_mem (fun hy hz ne e => ne (one _ hy _ hz (Value.ref.inj e))) ndL)
  have back : ∀ L1 : List (Addr × List Key), (∀ z ∈ L1, z ∈ L) → (L1.map fun z => Value.ref z.1).Perm (L.map fun z => Value.ref z.1) → L1.Perm L := fun L1 h1 pm => by
    refine (List.perm_ext_iff_of_nodup (nodup_of_map (pm.nodup_iff.mpr ndA)) ndL).mpr fun z => ⟨h1 z, fun hz => ?_⟩
    obtain ⟨y, hy, e⟩ := List.mem_map.mp (pm.mem_iff.mpr (List.mem_map.mpr ⟨z, hz, rfl⟩))
    rw [← one y (h1 y hy) z hz (Value.ref.inj e)]
    exact hy
  -- the key at an address
  let kf : Value → List Key := fun v => match v with
    | .ref b => ((L.find? fun z => decide (z.1 = b)).map (·.2)).getD []
    | _ => []
  have kfL : ∀ z ∈ L, kf (.ref z.1) = z.2 := fun z hz => by
    show ((L.find? fun y => decide (y.1 = z.1)).map (·.2)).getD [] = z.2
    cases e : L.find? fun y => decide (y.1 = z.1) with
    | none => exact absurd (List.find?_eq_none.mp e z hz) (by simp)
    | some y => rw [one y (List.mem_of_find?_eq_some e) z hz (by simpa using List.find?_some e)]; rfl
  refine Calls.call_function_entry kind_sorted plain_sorted entry_sorted (args_sorted1 _) ?_
  unfold Builtin.«sorted»
  refine wpAny_bind (m := checkCount "sorted" 1 1 _) (wpAny_pure ?_)
  refine wpAny_bind (collect_set (A := A.in1) hh ⟨o, ho, hex.1, hd⟩ R.fit (by unfold scanBound; omega) R.tw.up R.ld fun s1 vs k1 hz g1 o1 pm => ?_)
  have eR : es.toList.map (·.2) = L.map fun z => Value.ref z.1 := by rw [R.rw_, List.map_map]; rfl
  rw [eR] at pm
  have lv : vs.length = L.length := by rw [pm.length_eq, List.length_map]
  refine wpAny_bind (wpAny_newList ?_ (by omega))
  have atL : (s1.heap.push (seqObj "list" vs.toArray 0)).get? s1.heap.objs.size = some (seqObj "list" vs.toArray 0) := Heap.get?_push_size _ rfl
  have isM : ∀ v ∈ vs, ∃ b, v = Value.ref b ∧ IsM P w (s1.heap.push (seqObj "list" vs.toArray 0)) (kf v) b ∧ (kf v).map isI = true :: pt := fun v hv => by
    obtain ⟨z, hz, rfl⟩ := List.mem_map.mp (pm.mem_iff.mp hv)
    refine ⟨z.1, rfl, ?_, ?_⟩
    · rw [kfL z hz]
      exact (R.ks z hz).all fun b u e => Heap.get?_push_of_some _ (k1 b u e)
    · rw [kfL z hz]
      exact sh z hz
  refine wpAny_bind (wpAny_holding (wpAny_call_entry slot_list_sort ⟨_, atL, rfl⟩ entry_list_sort (list_sort_ord (s := { s1 with heap := s1.heap.push (seqObj "list" vs.toArray 0) }) (swoK kf) atL (by omega) (fun h2 => sortable (by omega) isM fun u e c => ?_) fun out hs hb => ⟨_, rfl, ?_⟩) (args_list_sort _)))
  · rw [atL] at e
    cases e
    exact absurd (Value.type.inj c) (by decide)
  · obtain ⟨c, hc⟩ := sortedHeap_at (vs := vs) (out := out.toArray) atL
    have mem : ∀ v ∈ out, ∃ z ∈ L, v = Value.ref z.1 := fun v hv => by
      obtain ⟨z, hz, e⟩ := List.mem_map.mp (pm.mem_iff.mp (hb.perm.mem_iff.mp hv))
      exact ⟨z, hz, e.symm⟩
    obtain ⟨L', e', h'⟩ := rows_any mem
    have pL : L'.Perm L := back L' h' (by rw [← e']; exact hb.perm.trans pm)
    have pw : L'.Pairwise (fun y z => lexK z.2 y.2 = false) := by
      have : out.Pairwise fun x y => lexK (kf y) (kf x) = false := hs
      rw [e'] at this
      refine List.Pairwise.imp_of_mem (fun {y z} hy hz hle => ?_) (List.pairwise_map.mp this)
      rw [kfL y (h' y hy), kfL z (h' z hz)] at hle
      exact hle
    refine wpAny_pure ⟨_, rfl, q _ s1.heap.objs.size out.toArray c L' (fun b u e => ?_) g1 o1 hz hc e' pL pw⟩
    have e2 := k1 b u e
    have lt := Heap.lt_size e2
    show (sortedHeap (s1.heap.push (seqObj "list" vs.toArray 0)) s1.heap.objs.size vs out.toArray).get? b = some u
    rw [sortedHeap_old (Nat.ne_of_lt lt) (by rw [size_push']; exact Nat.lt_succ_of_lt lt)]
    exact Heap.get?_push_of_some _ e2
end
section
variable {X : Cx} {q : Cq} {M : Md} {a : Expr} {ma : E}
theorem rps_rows {H : Hp} : ∀ {L : List (Addr × List Key)}, (∀ p ∈ L, H p.1 = some (.tup (p.2.map kV))) → Rps H (L.map fun p => keyT p.2) (L.map fun p => V.ref p.1)
  | [], _ => rfl
  | p :: L, h => .cons ⟨p.1, _, rfl, h p (List.mem_cons.mpr (.inl rfl)), rps_kV p.2⟩ (rps_rows fun z hz => h z (List.mem_cons.mpr (.inr hz)))
theorem vals_rows : ∀ (L : List (Addr × List Key)), Vals (L.map fun p => V.ref p.1) (L.map fun p => Value.ref p.1)
  | [] => .nil
  | p :: L => .cons rfl (vals_rows L)
/-- a list or a tuple of such tuples, as it stands, with the tuples tracked -/
theorem src_of2 {K : PySem.W.Frag} (eK : X.K = K) {pins : List (Addr × Obj)} {σ : L2.St} {H : Hp} {s : Shared} (I : Inv X pins σ H s) {h : Hc} (rh : RH K H h) {x : D} {v : V} {u : Value} {kss : List (List Key)} (rv : Rp H x v) (ru : RelV v u) (sq : Sq h x (kss.map keyT)) :
    ∃ (l : Addr) (ks : List (Addr × List Key)) (its : Array Value), u = .ref l ∧ Src s.heap l its ∧ its.toList = ks.map (fun p => Value.ref p.1) ∧ ks.map (·.2) = kss ∧ (∀ p ∈ ks, IsM X.prog X.w s.heap p.2 p.1) ∧ ∀ p ∈ ks, H p.1 = some (.tup (p.2.map kV)) := by
  obtain ⟨p, vs, rfl, src, rs⟩ := sq_of rh rv sq
  cases ru
  obtain ⟨ks, e1, rfl, al⟩ := rows_of rs
  subst eK
  rcases src with src | src
  · obtain ⟨its, r, pl, _⟩ := I.list src
    exact ⟨p, ks, its.toArray, rfl, .lst pl.isList, by simpa using refs_vals r, e1, fun q hq => isM_of I (al q hq), al⟩
  · obtain ⟨its, r, pl, _⟩ := I.tuple src
    exact ⟨p, ks, its.toArray, rfl, .tup (show s.heap.IsTuple p its.toArray from pl), by simpa using refs_vals r, e1, fun q hq => isM_of I (al q hq), al⟩
theorem x_sortset {p p2 pos pos2 : Pos} (hK : X.K = q.K) (hc : X.calm = true) (hu : X.A.units + 200 < cLine) (hg : Gl X "sorted") (hm : X.mg "sorted" = none) (hg2 : Gl X "set") (hm2 : X.mg "set" = none) (ha : PE X a (low q (wpE M ma)))
    (na : starEach [a] X.env = (false, eval a X.env) :: starEach [] X.env) : PE X (.Call (.Name "sorted" p) [.Call (.Name "set" p2) [a] [] pos2] [] pos) (low q (wpE M (.bi .sortset (.cons ma .nil)))) := by
  refine ⟨fun pins s σ H Q I w => ?_⟩
  obtain ⟨c, h, Qc, Xc, rs, rh, k, qq, qx⟩ := w
  refine Call_ (ld_blt (u := .builtin "sorted") I hg hm (by decide +kernel) ?_ (by decide +kernel) (by decide +kernel))
  refine PyProof.Rows.callWith_builtin1 (PyProof.Rows.args_cons ?_ rfl) rfl rfl
  refine Call_ (ld_blt I hg2 hm2 PyProof.Rows.boot_set ?_)
  refine PyProof.Rows.callWith_type1 (PyProof.Rows.args_cons (thn (ha.run pins s σ H (fun v H1 => ∃ d h1, Rp H1 d v ∧ RH q.K H1 h1 ∧ Ext H H1 ∧ wpBi .sortset [d] h1 Qc) I ⟨c, h, _, Xc, rs, rh, k, fun d h1 v H1 k1 r1 rh1 x1 => ⟨d, h1, r1, rh1, x1, k1⟩, qx⟩) fun u s1 ⟨v, H1, I1, ru, d, h1, r1, rh1, x1, k1⟩ => PyProof.Rows.args_nil ?_) na) na rfl
  obtain ⟨x, ys, kss, pt, ex, sq, rfl, few, sh, fin⟩ := k1
  cases ex
  obtain ⟨l, ks, its, rfl, sr, hi, e1, hk, hT⟩ := src_of2 hK I1 rh1 r1 ru sq
  have e2 : ks.length = kss.length := by rw [← e1, List.length_map]
  refine set_of ks (I1.ok.hd hc) sr hi hk (by omega) (by omega) fun h' tk L es ep t R g kp => ?_
  refine PyProof.Rows.args_nil ?_
  have I2 : Inv X pins σ H1 { s1 with heap := h', toks := tk } := I1.kept kp
  have fr : ∀ z ∈ L, z ∈ ks := fun z hz => List.mem_of_mem_take (g.fr z hz)
  have le := g.le
  have mem : ∀ z, z ∈ L.map (·.2) ↔ z ∈ kss := fun z => by
    rw [← e1]
    constructor
    · intro m
      obtain ⟨p, m1, rfl⟩ := List.mem_map.mp m
      exact List.mem_map.mpr ⟨p, fr p m1, rfl⟩
    · intro m
      obtain ⟨p, m1, rfl⟩ := List.mem_map.mp m
      exact g.al p (by rw [List.take_length]; exact m1)
  have line : (16384 : Nat) ≤ sizeLine := by rw [sizeLine_eq]; decide
  refine sorted_of (s := { s1 with heap := h', toks := tk }) R (I1.ok.hd hc) (by omega) (pt := pt) (fun z hz => sh z.2 (by rw [← e1]; exact List.mem_map.mpr ⟨z, fr z hz, rfl⟩)) fun s' d out cc L' kp2 g2 o2 hd2 at2 e3 pm pw => ?_
  have fr' : ∀ z ∈ L', z ∈ ks := fun z hz => fr z (pm.mem_iff.mp hz)
  have hn : H1 d = none := I2.hok.fresh hd2
  have len' : (L'.map fun z => V.ref z.1).length ≤ sizeLine := by rw [List.length_map, pm.length_eq]; omega
  have hv : Vals (L'.map fun z => V.ref z.1) out.toList := by rw [e3]; exact vals_rows L'
  have J : Inv X pins σ (upd H1 d (.lst (L'.map fun z => V.ref z.1))) { s1 with heap := s'.heap, gens := s'.gens, drawn := s'.drawn, toks := s'.toks } :=
    L2.Inv.call (s := { s1 with heap := h', toks := tk }) (ch := []) I2 (Un.laid kp2 hd2 hn) (I2.hok.laid kp2 hd2 ⟨len', out.toList, cc, hv, at2⟩) (by rw [g2]; exact I2.bare) (fun _ z => nomatch z)
  have e : s' = { s1 with heap := s'.heap, gens := s'.gens, drawn := s'.drawn, toks := s'.toks } := by
    cases s'
    cases s1
    cases o2
    rfl
  rw [e]
  obtain ⟨h2, sb, k2⟩ := fin d (L'.map (·.2)) (rh1.free hn) ((pm.map (·.2)).nodup_iff.mpr R.un) (fun z => (pm.map (·.2)).mem_iff.trans (mem z)) (List.pairwise_map.mpr pw)
  rw [List.map_map] at sb
  have rp : Rps H1 (L'.map fun z => keyT z.2) (L'.map fun z => V.ref z.1) := rps_rows fun z hz => hT z (fr' z hz)
  exact ⟨.ref d, _, J, rfl, qq _ _ _ _ k2 rfl ((rh1.lstNew hn rp).sub sb) (x1.trans (Ext.new hn))⟩
end
end Sr

set_option Elab.async false
set_option linter.all false
set_option maxRecDepth 100000
set_option autoImplicit false
/-! Sr7: tests, walks, comprehensions. -/
namespace Sr
open PySem PySem.Spec PyProof.Rows L2
section
variable {X : Cx} {q : Cq} {M : Md} {a b c e : Expr} {es rest : List Expr} {pos : Pos} {ma mb mc me : E} {mes : Es}
theorem t_truth {t : Sg → Hc → Qv → Qx → Prop} (hK : X.K = q.K) (ha : PE X e (low q t)) (he : ∀ whole, isTrue e X.env whole = (do let v ← whole; standAt e.pos; holding [v] (truthy v))) :
    PT X e (lowT q fun σ h Q X => t σ h (fun z h2 => ∃ k, Tru h2 z k ∧ Q k h2) X) :=
  (pt_truth ha he).imp fun σ H Q w => by
    obtain ⟨c, h, Qc, Xc, rs, rh, k, qq, qx⟩ := w
    refine ⟨c, h, _, Xc, rs, rh, k, fun d h1 v H1 ⟨i, e, k1⟩ r1 rh1 x1 => ?_, qx⟩
    exact ⟨i, by rw [hK]; exact tru_of rh1 r1 e, qq _ _ _ k1 rh1 x1⟩
theorem t_cmp (hK : X.K = q.K) (hu : X.A.units + 200 < cLine) {o : Cm} (ha : PE X a (low q (wpE M ma))) (hb : PE X b (low q (wpE M mb))) (hm : behindInMarks (cmOf o) b = false) :
    PT X (.Compare a [cmOf o] [b] pos) (lowT q (wpT M (.cmp o ma mb))) :=
  (pt_cmpR (op_cm hu o) ha hb hm).imp fun σ H Q w => by
    rw [hK]
    obtain ⟨c, h, Qc, Xc, rs, rh, k, qq, qx⟩ := w
    refine low_two (R := fun _ _ => True) (q := q) (f := wpCm o) ⟨c, h, _, Xc, rs, rh, k, fun d h1 v H1 ⟨i, e, k1⟩ r1 rh1 x1 => ?_, qx⟩
    subst e
    exact ⟨i, r1, qq _ _ _ k1 rh1 x1⟩
theorem low_chain {o o' : Cm} {σ : L2.St} {H : Hp} {Q : VK} {K : PySem.W.Frag} (hK : K = q.K) (w : low q (wpE M (.chain o o' ma mb mc)) σ H Q) : tChain (r2 K (wpCm o)) (r2 K (wpCm o')) (low q (wpE M ma)) (low q (wpE M mb)) (low q (wpE M mc)) σ H Q := by
  subst hK
  obtain ⟨c, h, Qc, Xc, rs, rh, k, qq, qx⟩ := w
  refine ⟨c, h, _, Xc, rs, rh, k, fun d h1 v H1 k1 r1 rh1 x1 => ?_, qx⟩
  refine ⟨c, h1, _, Xc, rs.ext x1, rh1, k1, fun e h2 u H2 k2 r2' rh2 x2 => ?_, fun x h' cls dd H' k r rh' x' => qx x h' cls dd H' k r rh' (x1.trans x')⟩
  refine ⟨d, e, h2, _, r1.ext x2, r2', rh2, k2, fun z h3 w' H3 ⟨i, ez, k3⟩ r3 rh3 x3 => ?_⟩
  subst ez
  refine ⟨i, r3, ?_⟩
  cases i with
  | false => exact qq _ _ _ _ k3 rfl rh3 ((x1.trans x2).trans x3)
  | true =>
    refine ⟨c, h3, _, Xc, ((rs.ext x1).ext x2).ext x3, rh3, k3, fun w h4 u4 H4 k4 r4 rh4 x4 => ?_, fun x h' cls dd H' k r rh' x' => qx x h' cls dd H' k r rh' (((x1.trans x2).trans x3).trans x')⟩
    exact ⟨e, w, h4, Qc, (r2'.ext x3).ext x4, r4, rh4, k4, fun d' h' v' H' k' r' rh' x' => qq _ _ _ _ k' r' rh' ((((x1.trans x2).trans x3).trans x4).trans x')⟩
theorem x_chain (hK : X.K = q.K) (hu : X.A.units + 200 < cLine) {o o' : Cm} (ha : PE X a (low q (wpE M ma))) (hb : PE X b (low q (wpE M mb))) (hc : PE X c (low q (wpE M mc))) (hm : lastMarks [cmOf o, cmOf o'] [b, c] = false) :
    PE X (.Compare a [cmOf o, cmOf o'] [b, c] pos) (low q (wpE M (.chain o o' ma mb mc))) :=
  (pe_chain (op_cm hu o) (op_cm hu o') ha hb hc hm).imp fun σ H Q w => low_chain hK w
theorem t_chain (hK : X.K = q.K) (hu : X.A.units + 200 < cLine) {o o' : Cm} (ha : PE X a (low q (wpE M ma))) (hb : PE X b (low q (wpE M mb))) (hc : PE X c (low q (wpE M mc))) (hm : lastMarks [cmOf o, cmOf o'] [b, c] = false) :
    PT X (.Compare a [cmOf o, cmOf o'] [b, c] pos) (lowT q (wpT M (.chain o o' ma mb mc))) :=
  (pt_chain (op_cm hu o) (op_cm hu o') ha hb hc hm).imp fun σ H Q w => by
    obtain ⟨c, h, Qc, Xc, rs, rh, k, qq, qx⟩ := w
    refine low_chain hK ⟨c, h, fun z h3 => ∃ k, z = .bl k ∧ Qc k h3, Xc, rs, rh, k, fun d h1 v H1 ⟨i, e, k1⟩ r1 rh1 x1 => ?_, qx⟩
    subst e
    exact ⟨i, r1, qq _ _ _ k1 rh1 x1⟩
theorem w_and1 (ha : PT X a (lowT q (wpT M ma))) : PW X (.BoolOp .And [a] pos) (lowT q (wpT M ma)) := pw_and1 ha
theorem w_or1 (ha : PT X a (lowT q (wpT M ma))) : PW X (.BoolOp .Or [a] pos) (lowT q (wpT M ma)) := pw_or1 ha
theorem w_and (ha : PT X a (lowT q (wpT M ma))) (hb : PW X (.BoolOp .And (b :: rest) pos) (lowT q (wpT M mb))) : PW X (.BoolOp .And (a :: b :: rest) pos) (lowT q (wpT M (.and ma mb))) :=
  (pw_and ha hb).imp fun σ H Q w => by
    obtain ⟨c, h, Qc, Xc, rs, rh, k, qq, qx⟩ := w
    refine ⟨c, h, _, Xc, rs, rh, k, fun i h1 H1 k1 rh1 x1 => ?_, qx⟩
    cases i with
    | true => exact ⟨c, h1, Qc, Xc, rs.ext x1, rh1, k1, fun d' h' H' k' rh' x' => qq _ _ _ k' rh' (x1.trans x'), fun x h' cls dd H' k r rh' x' => qx x h' cls dd H' k r rh' (x1.trans x')⟩
    | false => exact qq _ _ _ k1 rh1 x1
theorem w_or (ha : PT X a (lowT q (wpT M ma))) (hb : PW X (.BoolOp .Or (b :: rest) pos) (lowT q (wpT M mb))) : PW X (.BoolOp .Or (a :: b :: rest) pos) (lowT q (wpT M (.or ma mb))) :=
  (pw_or ha hb).imp fun σ H Q w => by
    obtain ⟨c, h, Qc, Xc, rs, rh, k, qq, qx⟩ := w
    refine ⟨c, h, _, Xc, rs, rh, k, fun i h1 H1 k1 rh1 x1 => ?_, qx⟩
    cases i with
    | false => exact ⟨c, h1, Qc, Xc, rs.ext x1, rh1, k1, fun d' h' H' k' rh' x' => qq _ _ _ k' rh' (x1.trans x'), fun x h' cls dd H' k r rh' x' => qx x h' cls dd H' k r rh' (x1.trans x')⟩
    | true => exact qq _ _ _ k1 rh1 x1
theorem t_not (ha : PT X a (lowT q (wpT M ma))) : PT X (.UnaryOp .Not a pos) (lowT q (wpT M (.not ma))) :=
  (pt_not ha).imp fun σ H Q w => by
    obtain ⟨c, h, Qc, Xc, rs, rh, k, qq, qx⟩ := w
    exact ⟨c, h, _, Xc, rs, rh, k, fun i h1 H1 k1 rh1 x1 => qq _ _ _ k1 rh1 x1, qx⟩
/-! ### a table of the module -/
def TabE (t : List (D × D)) (es : List DictEntry) : Prop := Paired (fun (p : D × D) (e : DictEntry) => ∃ x tk v, e.key = .str x tk ∧ p.1 = .str x ∧ RelV v e.val ∧ ∀ H, Rp H p.2 v) t es
structure TabK (K : PySem.W.Frag) (w : World) (a : Addr) (t : List (D × D)) : Prop where
  ex : ∃ es n, KDict K w a es n ∧ TabE t es.toList
theorem tab_find {z : Str} : ∀ {t : List (D × D)} {es : List DictEntry}, TabE t es →
    (dval t (.one (.inr z)) = none ∧ es.find? (·.key.isStr z) = none ∧ es.any (·.refKey) = false) ∨ ∃ d e v, dval t (.one (.inr z)) = some d ∧ es.find? (·.key.isStr z) = some e ∧ RelV v e.val ∧ ∀ H, Rp H d v
  | _, _, .nil => .inl ⟨rfl, rfl, rfl⟩
  | p :: t, e :: es, .cons r tl => by
    obtain ⟨x, tk, v, e1, e2, e3, e4⟩ := r
    have hk : kkOf p.1 = some (.one (.inr x)) := by rw [e2]; rfl
    have hs : e.key.isStr z = decide (x = z) := by
      rw [e1]
      show (x == z) = decide (x = z)
      rfl
    by_cases ez : x = z
    · refine .inr ⟨p.2, e, v, ?_, ?_, e3, e4⟩
      · unfold dval
        rw [List.find?_cons_of_pos (by rw [hk, ez]; simp)]; rfl
      · rw [List.find?_cons_of_pos (by rw [hs]; exact decide_eq_true ez)]
    · have g1 : dval (p :: t) (.one (.inr z)) = dval t (.one (.inr z)) := by
        unfold dval
        rw [List.find?_cons_of_neg (by rw [hk]; simp only [decide_eq_true_eq, Option.some.injEq, KK.one.injEq, Sum.inr.injEq]; exact ez)]
      have g2 : (e :: es).find? (·.key.isStr z) = es.find? (·.key.isStr z) := by
        rw [List.find?_cons_of_neg (by rw [hs]; simp only [decide_eq_true_eq]; exact ez)]
      have g3 : (e :: es).any (·.refKey) = es.any (·.refKey) := by
        rw [List.any_cons]
        have : e.refKey = false := by unfold DictEntry.refKey; rw [e1]
        rw [this, Bool.false_or]
      rw [g1, g2, g3]
      exact tab_find tl
theorem TabK.ns {K : PySem.W.Frag} {w : World} {a : Addr} {t : List (D × D)} (T : TabK K w a t) (z : Str) : ∃ es n, KDict K w a es n ∧
    ((dval t (.one (.inr z)) = none ∧ PySem.W.nsIn K a z = some none) ∨ ∃ d u v, dval t (.one (.inr z)) = some d ∧ PySem.W.nsIn K a z = some (some u) ∧ RelV v u ∧ ∀ H, Rp H d v) := by
  obtain ⟨es, n, kd, te⟩ := T.ex
  refine ⟨es, n, kd, ?_⟩
  unfold PySem.W.nsIn
  rw [kd.at_]
  rcases tab_find (z := z) te with ⟨h1, h2, h3⟩ | ⟨d, e, v, h1, h2, h3, h4⟩
  · refine .inl ⟨h1, ?_⟩
    dsimp only
    rw [h2, h3]; rfl
  · refine .inr ⟨d, e.val, v, h1, ?_, h3, h4⟩
    dsimp only
    rw [h2]
theorem op_in_tab {ta : Addr} {t : List (D × D)} (T : TabK X.K X.w ta t) : OpR X (compareOp .In) (fun x y H Q => y = .ref ta ∧ ∃ (d : D) (h : Hc) (Qc : Qv), Rp H d x ∧ RH X.K H h ∧ (∃ z, d = .str z ∧ Qc (.bl (dval t (.one (.inr z))).isSome) h) ∧ ∀ d' h' v H', Qc d' h' → Rp H' d' v → RH X.K H' h' → Ext H H' → Q v H') := by
  intro pins s σ H x y v u Q I ra rb ⟨ey, d, h, Qc, rd, rh, ⟨z, ed, f⟩, k⟩
  subst ed
  obtain ⟨es, n, kd, hz⟩ := T.ns z
  rcases hz with ⟨h1, h2⟩ | ⟨d, u', v', h1, h2, h3, h4⟩
  · refine op_in_kd kd pins s σ H x y v u Q I ra rb ⟨z, none, rd, ey, h2, ?_⟩
    rw [h1] at f
    exact k _ _ _ _ f rfl rh (.refl _)
  · refine op_in_kd kd pins s σ H x y v u Q I ra rb ⟨z, some u', rd, ey, h2, ?_⟩
    rw [h1] at f
    exact k _ _ _ _ f rfl rh (.refl _)
theorem op_notin_tab {ta : Addr} {t : List (D × D)} (T : TabK X.K X.w ta t) : OpR X (compareOp .NotIn) (fun x y H Q => y = .ref ta ∧ ∃ (d : D) (h : Hc) (Qc : Qv), Rp H d x ∧ RH X.K H h ∧ (∃ z, d = .str z ∧ Qc (.bl (!(dval t (.one (.inr z))).isSome)) h) ∧ ∀ d' h' v H', Qc d' h' → Rp H' d' v → RH X.K H' h' → Ext H H' → Q v H') := by
  intro pins s σ H x y v u Q I ra rb ⟨ey, d, h, Qc, rd, rh, ⟨z, ed, f⟩, k⟩
  subst ed
  obtain ⟨es, n, kd, hz⟩ := T.ns z
  rcases hz with ⟨h1, h2⟩ | ⟨d, u', v', h1, h2, h3, h4⟩
  · refine op_notIn_kd kd pins s σ H x y v u Q I ra rb ⟨z, none, rd, ey, h2, ?_⟩
    rw [h1] at f
    exact k _ _ _ _ f rfl rh (.refl _)
  · refine op_notIn_kd kd pins s σ H x y v u Q I ra rb ⟨z, some u', rd, ey, h2, ?_⟩
    rw [h1] at f
    exact k _ _ _ _ f rfl rh (.refl _)
end
end Sr

set_option Elab.async false
set_option linter.all false
set_option maxRecDepth 100000
set_option autoImplicit false
/-! Sr8: tables, methods, isinstance. -/
namespace Sr
open PySem PySem.Spec PyProof.Rows L2
section
variable {X : Cx} {q : Cq} {M : Md} {a b c e : Expr} {es rest : List Expr} {pos : Pos} {ma mb mc me : E} {mes : Es}
theorem x_gin {x : Str} {p : Pos} {ta : Addr} {t : List (D × D)} (hK : X.K = q.K) (T : TabK X.K X.w ta t) (hg : Gl X x) (hm : X.mg x = some (.ref ta)) (hdb : (x == ("__debug__" : Str)) = false) (ha : PE X a (low q (wpE M ma))) :
    PE X (.Compare a [.In] [.Name x p] pos) (low q (wpE M (.gin ma t))) :=
  (pe_cmpR (op_in_tab T) ha (pe_glob (v := .ref ta) hg hm rfl hdb) rfl).imp fun σ H Q w => by
    obtain ⟨c, h, Qc, Xc, rs, rh, k, qq, qx⟩ := w
    refine ⟨c, h, _, Xc, rs, rh, k, fun d h1 v H1 ⟨z, ez, k1⟩ r1 rh1 x1 => ?_, qx⟩
    exact ⟨rfl, d, h1, Qc, r1, by rw [hK]; exact rh1, ⟨z, ez, k1⟩, fun d' h' v' H' k' r' rh' x' => qq _ _ _ _ k' r' (by rw [← hK]; exact rh') (x1.trans x')⟩
theorem t_gin {x : Str} {p : Pos} {ta : Addr} {t : List (D × D)} (hK : X.K = q.K) (T : TabK X.K X.w ta t) (hg : Gl X x) (hm : X.mg x = some (.ref ta)) (hdb : (x == ("__debug__" : Str)) = false) (ha : PE X a (low q (wpE M ma))) :
    PT X (.Compare a [.In] [.Name x p] pos) (lowT q (wpT M (.gin ma t))) :=
  (pt_cmpR (op_in_tab T) ha (pe_glob (v := .ref ta) hg hm rfl hdb) rfl).imp fun σ H Q w => by
    obtain ⟨c, h, Qc, Xc, rs, rh, k, qq, qx⟩ := w
    refine ⟨c, h, _, Xc, rs, rh, k, fun d h1 v H1 ⟨z, ez, k1⟩ r1 rh1 x1 => ?_, qx⟩
    exact ⟨rfl, d, h1, fun z h3 => ∃ k, z = .bl k ∧ Qc k h3, r1, by rw [hK]; exact rh1, ⟨z, ez, _, rfl, k1⟩, fun d' h' v' H' ⟨k, e, k'⟩ r' rh' x' => by
      subst e
      exact ⟨k, r', qq _ _ _ k' (by rw [← hK]; exact rh') (x1.trans x')⟩⟩
theorem t_notgin {x : Str} {p : Pos} {ta : Addr} {t : List (D × D)} (hK : X.K = q.K) (T : TabK X.K X.w ta t) (hg : Gl X x) (hm : X.mg x = some (.ref ta)) (hdb : (x == ("__debug__" : Str)) = false) (ha : PE X a (low q (wpE M ma))) :
    PT X (.Compare a [.NotIn] [.Name x p] pos) (lowT q (wpT M (.not (.gin ma t)))) :=
  (pt_cmpR (op_notin_tab T) ha (pe_glob (v := .ref ta) hg hm rfl hdb) rfl).imp fun σ H Q w => by
    obtain ⟨c, h, Qc, Xc, rs, rh, k, qq, qx⟩ := w
    refine ⟨c, h, _, Xc, rs, rh, k, fun d h1 v H1 ⟨z, ez, k1⟩ r1 rh1 x1 => ?_, qx⟩
    exact ⟨rfl, d, h1, fun z h3 => ∃ k, z = .bl k ∧ Qc k h3, r1, by rw [hK]; exact rh1, ⟨z, ez, _, rfl, k1⟩, fun d' h' v' H' ⟨k, e, k'⟩ r' rh' x' => by
      subst e
      exact ⟨k, r', qq _ _ _ k' (by rw [← hK]; exact rh') (x1.trans x')⟩⟩
theorem ix_tab {ta : Addr} {t : List (D × D)} (T : TabK X.K X.w ta t) : IxR X (fun x y H Q => x = .ref ta ∧ ∃ (d : D) (h : Hc) (Qc : Qv), Rp H d y ∧ RH X.K H h ∧ (∃ z v, d = .str z ∧ dval t (.one (.inr z)) = some v ∧ Qc v h) ∧ ∀ d' h' v H', Qc d' h' → Rp H' d' v → RH X.K H' h' → Ext H H' → Q v H') := by
  intro vx sx pins s σ H x y v u Q I ra rb ⟨ex, d, h, Qc, rd, rh, ⟨z, dv, ed, f1, f2⟩, k⟩ hs
  subst ed
  obtain ⟨es, n, kd, hz⟩ := T.ns z
  rcases hz with ⟨h1, h2⟩ | ⟨d, u', v', h1, h2, h3, h4⟩
  · rw [f1] at h1; cases h1
  · rw [f1] at h1
    cases h1
    subst ex
    have ty := kd_type kd I
    have g := op_item_kd kd pins s σ H (.ref ta) y v u Q I ra rb ⟨z, u', v', rfl, rd, h2, h3, k _ _ _ _ f2 (h4 H) rh (.refl _)⟩
    cases ra
    exact sub_dict ty hs g
theorem x_gget {x : Str} {p : Pos} {ta : Addr} {t : List (D × D)} (hK : X.K = q.K) (T : TabK X.K X.w ta t) (hg : Gl X x) (hm : X.mg x = some (.ref ta)) (hdb : (x == ("__debug__" : Str)) = false) (ha : PE X a (low q (wpE M ma))) (hs : PlainIx a) :
    PE X (.Subscript (.Name x p) a pos) (low q (wpE M (.gget t ma))) :=
  (pe_ix (ix_tab T) (pe_glob (v := .ref ta) hg hm rfl hdb) ha hs).imp fun σ H Q w => by
    obtain ⟨c, h, Qc, Xc, rs, rh, k, qq, qx⟩ := w
    refine ⟨c, h, _, Xc, rs, rh, k, fun d h1 v H1 ⟨z, dv, ez, k0, k1⟩ r1 rh1 x1 => ?_, qx⟩
    exact ⟨rfl, d, h1, Qc, r1, by rw [hK]; exact rh1, ⟨z, dv, ez, k0, k1⟩, fun d' h' v' H' k' r' rh' x' => qq _ _ _ _ k' r' (by rw [← hK]; exact rh') (x1.trans x')⟩
theorem x_rev {k : Nat} {p1 p2 p3 : Pos} (hK : X.K = q.K) (ha : PE X a (low q (wpE M ma))) : PE X (.Subscript a (.Slice none none (some (.UnaryOp .USub (.Constant (.int 1) k p1) p2)) p3) pos) (low q (wpE M (.rev ma))) :=
  (pe_revL ha).imp fun σ H Q w => by
    obtain ⟨c, h, Qc, Xc, rs, rh, k, qq, qx⟩ := w
    refine ⟨c, h, _, Xc, rs, rh, k, fun d h1 v H1 ⟨r, xs, ed, k1, k2⟩ r1 rh1 x1 => ?_, qx⟩
    subst ed
    obtain ⟨vs, e1, rs⟩ := rh1.rdl k1
    refine ⟨r, vs, r1, by rw [hK]; exact e1, fun p np => qq _ _ _ _ (k2 p (rh1.free np)) rfl (rh1.lstNew np rs.rev) (x1.trans (Ext.new np))⟩
/-! ### methods of lists -/
theorem x_mt0 {name : Str} {m : Mt} {id : String} {apos : Pos} (hK : X.K = q.K) (pa : PlainAttrs "list") (slot : Slot "list" name id) (hty : typeOf (.builtin id) = pure (.type "method_descriptor")) (hm : MtR X id (rM X.K (wpMt m)))
    (ho : PE X a (low q (wpE M ma))) (hbase : attributeBase a name X.env (eval a X.env) = eval a X.env) (hline : (apos.endLine == pos.line) = true) :
    PE X (.Call (.Attribute a name apos) [] [] pos) (low q (wpE M (.mt m ma .nil))) :=
  (pe_bm0 pa slot hty hm ho hbase hline).imp fun σ H Q w => by
    obtain ⟨c, h, Qc, Xc, rs, rh, k, qq, qx⟩ := w
    refine ⟨c, h, _, Xc, rs, rh, k, fun d h1 v H1 ⟨⟨r, ys, ed, eh⟩, k1⟩ r1 rh1 x1 => ?_, qx⟩
    subst ed
    obtain ⟨vs, e1, rs⟩ := rh1.rdl eh
    cases r1
    exact ⟨.inl ⟨rfl, vs, by rw [hK]; exact e1⟩, .ref r, [], h1, Qc, rfl, .nil, by rw [hK]; exact rh1, k1, fun d' h' v' H' k' r' rh' x' => qq _ _ _ _ k' r' (by rw [← hK]; exact rh') (x1.trans x')⟩
/-- with arguments: what stands at the receiver is asked ahead of them -/
theorem x_mt {name : Str} {m : Mt} {id : String} {apos : Pos} (hK : X.K = q.K) (pa : PlainAttrs "list") (slot : Slot "list" name id) (hty : typeOf (.builtin id) = pure (.type "method_descriptor")) (hm : MtR X id (rM X.K (wpMt m)))
    (ho : PE X a (low q (wpE M ma))) (ha : PA X (e :: es) (lowA q (wpEs M mes))) (hbase : attributeBase a name X.env (eval a X.env) = eval a X.env) (hline : (apos.endLine == pos.line) = true)
    (hfew : ((backTo pos (starEach (e :: es) X.env)).all (fun x => !x.1) && (backToKw pos (keywordEach [] X.env)).all (fun x => x.1.isSome) && decide ((e :: es).length + ([] : List Keyword).length + (if ([] : List Keyword).isEmpty then 0 else 1) < 30)) = true)
    (hs : starEach (e :: es) X.env = (false, eval e X.env) :: starEach es X.env) (hpl : (backTo pos (starEach es X.env)).any (·.1) = false) :
    PE X (.Call (.Attribute a name apos) (e :: es) [] pos) (low q (wpE M (.mt m ma mes))) :=
  (pe_bm pa slot hty hm ho ha hbase hfew hline hs hpl).imp fun σ H Q w => by
    obtain ⟨c, h, Qc, Xc, rs, rh, k, qq, qx⟩ := w
    refine ⟨c, h, _, Xc, rs, rh, k, fun d h1 v H1 ⟨⟨r, ys, ed, eh⟩, k1⟩ r1 rh1 x1 => ?_, qx⟩
    subst ed
    obtain ⟨vs, e1, rs'⟩ := rh1.rdl eh
    cases r1
    refine ⟨.inl ⟨rfl, vs, by rw [hK]; exact e1⟩, c, h1, _, Xc, rs.ext x1, rh1, k1, fun ds h2 us H2 k2 r2 rh2 x2 => ?_, fun x h' cls dd H' k r rh' x' => qx x h' cls dd H' k r rh' (x1.trans x')⟩
    exact ⟨.ref r, ds, h2, Qc, rfl, r2, by rw [hK]; exact rh2, k2, fun d' h' v' H' k' r' rh' x' => qq _ _ _ _ k' r' (by rw [← hK]; exact rh') ((x1.trans x2).trans x')⟩
/-! ### isinstance -/
def tyS : Ty → String
  | .int => "int" | .bool => "bool" | .str => "str" | .tuple => "tuple" | .list => "list"
theorem isTy_of {K : PySem.W.Frag} {H : Hp} {h : Hc} {d : D} {v : V} {t : Ty} {b : Bool} (rh : RH K H h) (r : Rp H d v) (f : isTy h d t b) : ∃ n, TyX K H v (.type n) ∧ kitB n (tyS t) = some b := by
  cases d with
  | non => cases r; refine ⟨"NoneType", .base .non, ?_⟩; cases t <;> cases f <;> decide +kernel
  | bl x => cases r; refine ⟨"bool", .base (.bl x), ?_⟩; cases t <;> cases f <;> decide +kernel
  | int x => cases r; refine ⟨"int", .base (.int x), ?_⟩; cases t <;> cases f <;> decide +kernel
  | str x => cases r; refine ⟨"str", .base (.str x), ?_⟩; cases t <;> cases f <;> decide +kernel
  | tup x =>
    obtain ⟨a, vs, rfl, e, _⟩ := r
    refine ⟨"tuple", .base (.tup e), ?_⟩; cases t <;> cases f <;> decide +kernel
  | ref a =>
    cases r
    obtain ⟨xs, e, f⟩ := f
    rcases e with e | e
    · obtain ⟨vs, e1, _⟩ := rh _ _ e
      refine ⟨"list", .base (.lst e1), ?_⟩; cases t <;> cases f <;> decide +kernel
    · obtain ⟨vs, e1 | ⟨ob, e1⟩, _⟩ := rh _ _ e
      · refine ⟨"list", .base (.lst e1), ?_⟩; cases t <;> cases f <;> decide +kernel
      · refine ⟨"list", .base (.frz e1), ?_⟩; cases t <;> cases f <;> decide +kernel
theorem x_isi {p p2 : Pos} {T : Ty} {x : Str} (hK : X.K = q.K) (hv : bootBuiltins x = some (.type (tyS T))) (hn : x ≠ "__name__") (hdb : (x == ("__debug__" : Str)) = false) (hg : Gl X "isinstance") (hm : X.mg "isinstance" = none) (hg2 : Gl X x) (hm2 : X.mg x = none) (ha : PE X a (low q (wpE M ma)))
    (h1 : starEach [a, .Name x p2] X.env = (false, eval a X.env) :: starEach [.Name x p2] X.env) :
    PE X (.Call (.Name "isinstance" p) [a, .Name x p2] [] pos) (low q (wpE M (.isi ma [T]))) :=
  (pe_callB call_isi hg hm (by decide +kernel) (pa_cons ha (pa_cons (pe_bltn (v := .ty (tyS T)) hg2 hm2 hv rfl hn hdb) pa_nil) h1) (by decide) (by decide) h1 rfl).imp fun σ H Q w => by
    obtain ⟨c, h, Qc, Xc, rs, rh, k, qq, qx⟩ := w
    refine ⟨c, h, _, Xc, rs, rh, k, fun d h1 v H1 ⟨b, f, k1⟩ r1 rh1 x1 => ?_, qx⟩
    obtain ⟨n, t1, t2⟩ := isTy_of rh1 r1 f
    exact ⟨v, .ty (tyS T), .type n, .type (tyS T), b, rfl, .ty _, by rw [hK]; exact t1, kit_ty t2, qq _ _ _ _ k1 rfl rh1 x1⟩
end
end Sr

set_option Elab.async false
set_option linter.all false
set_option maxRecDepth 100000
set_option autoImplicit false
/-! Sr9: walks. -/
namespace Sr
open PySem PySem.Spec PyProof.Rows L2
/-- the layer's walk J has these items while chk stands -/
structure ItR (K : PySem.W.Frag) (H0 : Hp) (items : List D) (chk : Hc → Prop) (J : L2.It) : Prop where
  go : ∀ i h H, Ext H0 H → i < items.length → chk h → RH K H h → J.go i H
  stop : ∀ h H, Ext H0 H → chk h → RH K H h → J.stop items.length H
  yld : ∀ i h H x H', Ext H0 H → i < items.length → chk h → RH K H h → J.yld i H x H' → ∃ d, items[i]? = some d ∧ Rp H' d x ∧ RH K H' h ∧ Ext H H'
def lowI (q : Cq) (t : Sg → Hc → (List D → (Hc → Prop) → Hc → Prop) → Qx → Prop) : TI := fun σ H R => ∃ c h Rc Xc, Rs q.ev H c σ ∧ RH q.K H h ∧ t c h Rc Xc ∧
  (∀ items chk h' H' J, Rc items chk h' → RH q.K H' h' → Ext H H' → ItR q.K H' items chk J → R J H') ∧ (∀ x h' cls dd H', Xc x h' → RX q x cls dd H' → RH q.K H' h' → Ext H H' → q.W cls dd σ H')
theorem _root_.L2.PI.imp {X : Cx} {tg e : Expr} {t t' : TI} (h : PI X tg e t) (i : ∀ σ H R, t' σ H R → t σ H R) : PI X tg e t' := ⟨fun pins s σ H R I hw => h.run pins s σ H R I (i σ H R hw)⟩
/-! ### the walks' items -/
theorem range_at {n i : Nat} (f : Nat → D) (h : i < n) : ((List.range n).map f)[i]? = some (f i) := by
  rw [List.getElem?_map, List.getElem?_range h]; rfl
theorem lt_range {n i : Nat} {f : Nat → D} (h : i < ((List.range n).map f).length) : i < n := by simpa using h
theorem len_range {n : Nat} {f : Nat → D} : ((List.range n).map f).length = n := by simp
theorem itr_rng {K : PySem.W.Frag} {H0 : Hp} (lo : Int) (n : Nat) : ItR K H0 ((List.range n).map fun (k : Nat) => .int (lo + (k : Int))) (fun _ => True) (Itr lo n) where
  go := fun i h H _ hi _ _ => (lt_range hi : i < n)
  stop := fun h H _ _ _ => by rw [len_range]; exact Nat.le_refl n
  yld := fun i h H x H' _ hi _ rh ⟨e1, e2⟩ => by
    subst e1
    exact ⟨_, range_at _ (lt_range hi), e2, rh, .refl _⟩
theorem itr_rngC {K : PySem.W.Frag} {H0 : Hp} (lo c : Int) (n : Nat) : ItR K H0 ((List.range n).map fun (k : Nat) => .int (lo + (k : Int) * c)) (fun _ => True) (Itc lo c n) where
  go := fun i h H _ hi _ _ => (lt_range hi : i < n)
  stop := fun h H _ _ _ => by rw [len_range]; exact Nat.le_refl n
  yld := fun i h H x H' _ hi _ rh ⟨e1, e2⟩ => by
    subst e1
    exact ⟨_, range_at _ (lt_range hi), e2, rh, .refl _⟩
theorem itr_str {K : PySem.W.Frag} {H0 : Hp} (z : Str) : ItR K H0 (z.cps.toList.map fun c => D.str ⟨#[c]⟩) (fun _ => True) (Its z) where
  go := fun i h H _ hi _ _ => by
    show i < z.cps.size
    simpa using hi
  stop := fun h H _ _ _ => by show z.cps.size ≤ _; simp
  yld := fun i h H x H' _ hi _ rh ⟨e1, c, e2, e3⟩ => by
    subst e1
    refine ⟨.str ⟨#[c]⟩, ?_, e3, rh, .refl _⟩
    rw [List.getElem?_map]
    simp [e2]
theorem itr_lst {K : PySem.W.Frag} {H0 : Hp} {a : Addr} {xs : List D} : ItR K H0 xs (fun h => RdL h a xs) (Itl K a) where
  go := fun i h H _ hi ck rh => by
    obtain ⟨vs, e1, rs⟩ := rh.rdl ck
    obtain ⟨v, ev, _⟩ := rs.get (List.getElem?_eq_getElem hi)
    exact ⟨vs, v, e1, ev⟩
  stop := fun h H _ ck rh => by
    obtain ⟨vs, e1, rs⟩ := rh.rdl ck
    exact ⟨vs, e1, by rw [rs.len]; exact Nat.le_refl _⟩
  yld := fun i h H x H' _ hi ck rh ⟨e1, e2⟩ => by
    subst e1
    obtain ⟨vs, e3, rs⟩ := rh.rdl ck
    obtain ⟨d, ed, r⟩ := rs.get' (e2 vs e3)
    exact ⟨d, ed, r, rh, .refl _⟩
theorem itr_tup {K : PySem.W.Frag} {H0 : Hp} {a : Addr} {xs : List D} {vs : List V} (e : H0 a = some (.tup vs)) (rs : Rps H0 xs vs) : ItR K H0 xs (fun _ => True) (Itt K a) where
  go := fun i h H x hi _ _ => by
    obtain ⟨v, ev, _⟩ := rs.get (List.getElem?_eq_getElem hi)
    exact ⟨vs, v, .of (x.1 _ _ e), ev⟩
  stop := fun h H x _ _ => ⟨vs, .of (x.1 _ _ e), by rw [rs.len]; exact Nat.le_refl _⟩
  yld := fun i h H y H' x hi _ rh ⟨g1, g2⟩ => by
    subst g1
    obtain ⟨d, ed, r⟩ := (rs.ext x).get' (g2 vs (.of (x.1 _ _ e)))
    exact ⟨d, ed, r, rh, .refl _⟩
theorem paired_fst {β : Type} {f : β → D} {H : Hp} : ∀ {kvs : List (D × D)} {ks : List (β × V)} {i : Nat} {k : β} {v : V}, Paired (fun p q => p.1 = f q.1 ∧ Rp H p.2 q.2) kvs ks → ks[i]? = some (k, v) → (kvs.map (·.1))[i]? = some (f k)
  | _, _, i, k, v, .nil, e => by simp at e
  | p :: kvs, q :: ks, 0, k, v, .cons r t, e => by
    simp at e; subst e
    simp [r.1]
  | p :: kvs, q :: ks, i + 1, k, v, .cons r t, e => by
    have := paired_fst (i := i) t (by simpa using e)
    simpa using this
theorem itr_keys {K : PySem.W.Frag} {H0 : Hp} {d : Addr} {o : Obj} {kvs : List (D × D)} {ks : List (Key × V)} (p : Paired (fun p q => p.1 = keyD q.1 ∧ Rp H0 p.2 q.2) kvs ks) (e0 : H0 d = some (.frz o (.dK ks))) :
    ItR K H0 (kvs.map (·.1)) (fun h => h d = some (.lck (.dic kvs))) (Itk d o ks) where
  go := fun i h H x hi ck rh => ⟨x.2 _ _ _ e0, by rw [← paired_len p]; simpa using hi⟩
  stop := fun h H x ck rh => ⟨x.2 _ _ _ e0, by rw [← paired_len p]; simp⟩
  yld := fun i h H y H' x hi ck rh ⟨e1, k, v, e2, e3⟩ => by
    subst e1
    refine ⟨keyD k, paired_fst p e2, ?_, rh, .refl _⟩
    rw [e3]; exact rp_kV k
theorem itr_keysT {K : PySem.W.Frag} {H0 : Hp} {d : Addr} {o : Obj} {kvs : List (D × D)} {ks : List (List Key × V)} (p : Paired (fun p q => p.1 = .tup (q.1.map keyD) ∧ Rp H0 p.2 q.2) kvs ks) (e0 : H0 d = some (.frz o (.dT ks))) :
    ItR K H0 (kvs.map (·.1)) (fun h => h d = some (.lck (.dic kvs))) (Itkt d o ks) where
  go := fun i h H x hi ck rh => ⟨x.2 _ _ _ e0, by rw [← paired_len p]; simpa using hi⟩
  stop := fun h H x ck rh => ⟨x.2 _ _ _ e0, by rw [← paired_len p]; simp⟩
  yld := fun i h H y H' x hi ck rh ⟨e1, k, v, b, e2, e3, e4⟩ => by
    subst e1
    exact ⟨.tup (k.map keyD), paired_fst (f := fun (z : List Key) => D.tup (z.map keyD)) p e2, ⟨b, _, e3, e4, rps_kV k⟩, rh, .refl _⟩
/-! ### what is walked -/
section
variable {X : Cx} {q : Cq} {M : Md} {a b c e tg : Expr} {es rest : List Expr} {pos p : Pos} {ma mb mc me : E} {mes : Es}
theorem i_of (hK : X.K = q.K) (he : PE X e (low q (wpE M me))) : PI X tg e (lowI q (wpIt M (.of me))) := by
  refine ⟨fun pins s σ H R I w => ?_⟩
  obtain ⟨c, h, Rc, Xc, rs, rh, k, rr, qx⟩ := w
  refine thn (he.run pins s σ H (fun v H' => ∃ d h', Rp H' d v ∧ RH q.K H' h' ∧ Ext H H' ∧ walkD Rc d h') I ⟨c, h, _, Xc, rs, rh, k, fun d h' v H' k r rh' x => ⟨d, h', r, rh', x, k⟩, qx⟩) fun u s1 ⟨v, H1, I1, rv, d, h1, r, rh1, x1, k1⟩ => ?_
  cases d with
  | tup ds =>
    obtain ⟨a, vs, rfl, e1, rs1⟩ := r
    cases rv
    obtain ⟨its, rvs, pl, hz⟩ := I1.tuple (.of e1)
    exact wpAny_pyIter_tuple (show s1.heap.IsTuple a its.toArray from pl) (pi_one (tk := s1.toks) I1 _ (turn_tuple a _) ⟨_, Heap.get?_push_size _ rfl, rfl, rfl⟩ (rr _ _ _ _ _ k1 rh1 x1 (by rw [hK]; exact itr_tup e1 rs1)))
  | str z =>
    cases r
    obtain ⟨t, rfl⟩ := rv
    cases ha : z.cps.all (· < 128)
    · exact wpAny_pyIter_wide ha (pi_one (tk := s1.toks) I1 _ (turn_str _ z t "str_iterator" (.inr rfl)) ⟨_, Heap.get?_push_size _ rfl, rfl, rfl⟩ (rr _ _ _ _ _ k1 rh1 x1 (itr_str z)))
    · exact wpAny_pyIter_ascii ha (pi_one (tk := s1.toks) I1 _ (turn_str _ z t "str_ascii_iterator" (.inl rfl)) ⟨_, Heap.get?_push_size _ rfl, rfl, rfl⟩ (rr _ _ _ _ _ k1 rh1 x1 (itr_str z)))
  | ref a =>
    cases r
    cases rv
    rcases k1 with ⟨xs, f0, k1⟩ | ⟨kvs, f0, k1⟩
    · obtain ⟨vs, e1, rs1⟩ := rh1.rdl f0
      rw [← hK] at e1
      obtain ⟨its, rvs, pl, hz⟩ := I1.list e1
      refine wpAny_pyIter_list pl.isList (pi_one (tk := s1.toks) I1 _ (turn_list a _) ⟨_, Heap.get?_push_size _ rfl, rfl, rfl⟩ (rr _ _ _ _ _ k1 rh1 x1 ?_))
      rw [hK]
      exact itr_lst
    · rcases rh1 _ _ f0 with ⟨ks, ⟨ob, e1⟩, pr⟩ | ⟨ks, ⟨ob, e1⟩, pr⟩
      · obtain ⟨hs, hgd, hx, es, ep, vs, hdt, hsz, kv, hm⟩ := I1.frzK e1
        refine iter_keys hs hgd hx hdt (pi_one (tk := s1.toks) I1 _ (turn_keys _ hdt) ⟨_, Heap.get?_push_size _ rfl, rfl, ?_⟩ (rr _ _ _ _ _ k1 rh1 x1 (itr_keys pr e1)))
        rw [hsz] <;> rfl
      · obtain ⟨hs, hgd, hx, es, ep, hdt, hsz, ent⟩ := I1.frzT e1
        refine iter_keys hs hgd hx hdt (pi_one (tk := s1.toks) I1 _ (turn_keysT _ hdt) ⟨_, Heap.get?_push_size _ rfl, rfl, ?_⟩ (rr _ _ _ _ _ k1 rh1 x1 (itr_keysT pr e1)))
        rw [hsz] <;> rfl
  | _ => exact False.elim k1
/-- ints handed to range -/
theorem i_rng1 (hg : Gl X "range") (hm : X.mg "range" = none) (ha : PA X [a] (lowA q (wpEs M mes))) (hn : mes.len = 1) (hs : starEach [a] X.env = [(false, eval a X.env)]) : PI X tg (.Call (.Name "range" p) [a] [] pos) (lowI q (wpIt M (.rng mes))) :=
  (pi_range1 hg hm ha hs).imp fun σ H R w => by
    obtain ⟨c, h, Rc, Xc, rs, rh, k, rr, qx⟩ := w
    refine ⟨c, h, _, Xc, rs, rh, k, fun ds h1 vs H1 ⟨k0, k1⟩ r1 rh1 x1 => ?_, qx⟩
    rw [hn] at k0
    match ds, k0, k1, r1 with
    | [.int j], _, k1, r1 =>
      obtain ⟨v, rfl, r2⟩ := r1.one
      exact ⟨j, by rw [show v = .int j from r2], k1.1, k1.2.1, rr _ _ _ _ _ k1.2.2 rh1 x1 (itr_rng 0 j.toNat)⟩
theorem i_rng2 (hg : Gl X "range") (hm : X.mg "range" = none) (ha : PA X [a, b] (lowA q (wpEs M mes))) (hn : mes.len = 2) (hs : starEach [a, b] X.env = [(false, eval a X.env), (false, eval b X.env)]) (hs2 : starEach [b] X.env = [(false, eval b X.env)]) :
    PI X tg (.Call (.Name "range" p) [a, b] [] pos) (lowI q (wpIt M (.rng mes))) :=
  (pi_range2 hg hm ha hs hs2).imp fun σ H R w => by
    obtain ⟨c, h, Rc, Xc, rs, rh, k, rr, qx⟩ := w
    refine ⟨c, h, _, Xc, rs, rh, k, fun ds h1 vs H1 ⟨k0, k1⟩ r1 rh1 x1 => ?_, qx⟩
    rw [hn] at k0
    match ds, k0, k1, r1 with
    | [.int i, .int j], _, k1, r1 =>
      obtain ⟨v, u, rfl, r2, r3⟩ := r1.two
      exact ⟨i, j, by rw [show v = .int i from r2, show u = .int j from r3], k1.1, rr _ _ _ _ _ k1.2 rh1 x1 (itr_rng i (j - i).toNat)⟩
theorem i_rng3 (hg : Gl X "range") (hm : X.mg "range" = none) (ha : PA X [a, b, c] (lowA q (wpEs M mes))) (hn : mes.len = 3) (hs : starEach [a, b, c] X.env = (false, eval a X.env) :: starEach [b, c] X.env) (hpl : (backTo pos (starEach [b, c] X.env)).any (·.1) = false) :
    PI X tg (.Call (.Name "range" p) [a, b, c] [] pos) (lowI q (wpIt M (.rng mes))) :=
  (pi_range3 hg hm ha hs hpl).imp fun σ H R w => by
    obtain ⟨c, h, Rc, Xc, rs, rh, k, rr, qx⟩ := w
    refine ⟨c, h, _, Xc, rs, rh, k, fun ds h1 vs H1 ⟨k0, k1⟩ r1 rh1 x1 => ?_, qx⟩
    rw [hn] at k0
    match ds, k0, k1, r1 with
    | [.int i, .int j, .int c], _, k1, r1 =>
      obtain ⟨v, vs, rfl, r2, r3⟩ := r1
      obtain ⟨u, z, rfl, r4, r5⟩ := r3.two
      obtain ⟨n, g, k1⟩ := k1
      exact ⟨i, j, c, n, by rw [show v = .int i from r2, show u = .int j from r4, show z = .int c from r5], g, rr _ _ _ _ _ k1 rh1 x1 (itr_rngC i c n)⟩
end
/-! ### targets -/
section
variable {X : Cx} {q : Cq} {M : Md} {a b c e tg : Expr} {es rest : List Expr} {pos p : Pos} {ma mb mc me : E} {mes : Es}
theorem _root_.L2.PG.imp {X : Cx} {e : Expr} {t t' : TG} (h : PG X e t) (i : ∀ v σ H Q, t' v σ H Q → t v σ H Q) : PG X e t' := ⟨fun pins s σ H v u Q I r hw => h.run pins s σ H v u Q I r (i v σ H Q hw)⟩
theorem _root_.L2.PG.or {X : Cx} {e : Expr} {t t' : TG} (h : PG X e t) (h' : PG X e t') : PG X e (fun v σ H Q => t v σ H Q ∨ t' v σ H Q) :=
  ⟨fun pins s σ H v u Q I r hw => hw.elim (fun z => h.run pins s σ H v u Q I r z) fun z => h'.run pins s σ H v u Q I r z⟩
theorem Rs.put {ev : Option (Nat × Addr)} {H : Hp} {c : Sg} {σ : L2.St} {i : Nat} {d : D} {v : V} (r : Rs ev H c σ) (rv : Rp H d v) (ne : ∀ a, ev ≠ some (i, a)) : Rs ev H (c.set i (some d)) (σ.set i (some v)) where
  len := by rw [List.length_set, List.length_set, r.len]
  at_ := fun j d' e => by
    by_cases z : i = j
    · subst z
      by_cases hl : i < c.length
      · rw [List.getElem?_set_self hl] at e
        cases e
        exact ⟨v, List.getElem?_set_self (by rw [← r.len]; exact hl), rv⟩
      · rw [List.getElem?_eq_none (by rw [List.length_set]; omega)] at e
        cases e
    · rw [List.getElem?_set_ne z] at e
      rw [List.getElem?_set_ne z]
      exact r.at_ j d' e
  ev_ := fun j a e => by
    have z : i ≠ j := fun z => ne a (z ▸ e)
    rw [List.getElem?_set_ne z]
    exact r.ev_ j a e
theorem g_nm {i : Nat} (h : PG X e (gName i)) (ne : ∀ a, q.ev ≠ some (i, a)) : PG X e (lowG q [i] (wpTg M (.nm i))) :=
  h.imp fun v σ H Q w => by
    obtain ⟨d, c, h, Qc, Xc, rv, rs, rh, k, qq, qx⟩ := w
    refine qq _ _ _ _ k (rs.put rv ne) rh (.refl _) ⟨by rw [List.length_set], fun j n => ?_⟩
    rw [List.getElem?_set_ne (fun z => n (by rw [z]; exact List.mem_cons_self))]
def lowGs (q : Cq) (sl : List Nat) (t : List D → Sg → Hc → (Sg → Hc → Prop) → Prop) : TGs := fun vs σ H Q => ∃ ds c h Qc, Rps H ds vs ∧ Rs q.ev H c σ ∧ RH q.K H h ∧ t ds c h Qc ∧
  (∀ c' h' σ' H', Qc c' h' → Rs q.ev H' c' σ' → RH q.K H' h' → Ext H H' → SameS sl σ σ' → Q σ' H')
theorem _root_.L2.PGs.imp {es : List Expr} {t t' : TGs} (h : PGs X es t) (i : ∀ v σ H Q, t' v σ H Q → t v σ H Q) : PGs X es t' := ⟨fun pins s σ H vs us Q I r hw => h.run pins s σ H vs us Q I r (i vs σ H Q hw)⟩
theorem gs_nil : PGs X [] (lowGs q [] (wpTgs M .nil)) := pgs_nil.imp fun v σ H Q w => by
  obtain ⟨ds, c, h, Qc, rv, rs, rh, ⟨k0, k⟩, qq⟩ := w
  subst k0
  cases rv
  exact ⟨rfl, qq _ _ _ _ k rs rh (.refl _) (.refl _ _)⟩
theorem gs_cons {t : Tg} {ts : Tgs} {sl sl2 : List Nat} (h1 : PG X e (lowG q sl (wpTg M t))) (h2 : PGs X es (lowGs q sl2 (wpTgs M ts))) (hs : (assignEach (e :: es) X.env).map (·.2) = assign e X.env :: (assignEach es X.env).map (·.2)) : PGs X (e :: es) (lowGs q (sl ++ sl2) (wpTgs M (.cons t ts))) :=
  (pgs_cons h1 h2 hs).imp fun v σ H Q w => by
    obtain ⟨ds, c, h, Qc, rv, rs, rh, ⟨d, r, k0, k⟩, qq⟩ := w
    subst k0
    obtain ⟨v, vs, rfl, r1, r2⟩ := rv
    refine ⟨v, vs, rfl, d, c, h, _, _, r1, rs, rh, k, fun c1 h1 σ1 H1 k1 rs1 rh1 x1 s1 => ?_, fun _ _ _ _ _ z => z.elim⟩
    exact ⟨r, c1, h1, Qc, r2.ext x1, rs1, rh1, k1, fun c' h' σ' H' k' rs' rh' x' s' => qq _ _ _ _ k' rs' rh' (x1.trans x') (s1.trans s')⟩
theorem g_tup {k : Nat} {ts : Tgs} {sl : List Nat} (hK : X.K = q.K) (hc : X.calm = true) (h : PGs X es (lowGs q sl (wpTgs M ts))) (hn : (assignEach es X.env).length = ts.len) (hst : (assignEach es X.env).findIdx? (·.1) = none) : PG X (.Tuple es k pos) (lowG q sl (wpTg M (.tup ts))) :=
  ((pg_tup hc h hn hst).or (pg_lst hc h hn hst)).imp fun v σ H Q w => by
    obtain ⟨d, c, h, Qc, Xc, rv, rs, rh, ⟨ds, k0, kl, k⟩, qq, qx⟩ := w
    rcases k0 with rfl | ⟨a, rfl, k0⟩
    · obtain ⟨a, vs, rfl, e1, r1⟩ := rv
      exact .inl ⟨a, vs, rfl, .of e1, by rw [← r1.len]; exact kl, ds, c, h, Qc, r1, rs, rh, k, qq⟩
    · cases rv
      obtain ⟨vs, e1, r1⟩ := rh.rdl k0
      exact .inr ⟨a, vs, rfl, by rw [hK]; exact e1, by rw [← r1.len]; exact kl, ds, c, h, Qc, r1, rs, rh, k, qq⟩
theorem g_ix (hu : X.A.units + 200 < cLine) (hK : X.K = q.K) (ha : PE X a (low q (wpE M ma))) (hb : PE X b (low q (wpE M mb)))
    (hs : ∀ v, assign (.Subscript a b pos) X.env v = (do
      let ov ← holding [v] (eval a X.env)
      let iv ← holding [v, ov] (eval b X.env)
      standAt pos
      holding [v, ov, iv] (setItem ov iv v)
      release [v, ov, iv] [])) : PG X (.Subscript a b pos) (lowG q [] (wpTg M (.ix ma mb))) :=
  (pg_sub ha hb (set_any hu) hs).imp fun v σ H Q w => by
    obtain ⟨d, c, h, Qc, Xc, rv, rs, rh, k, qq, qx⟩ := w
    refine ⟨c, h, _, Xc, rs, rh, k, fun x h1 xv H1 k1 r1 rh1 x1 => ?_, qx⟩
    refine ⟨c, h1, _, Xc, rs.ext x1, rh1, k1, fun y h2 yv H2 k2 r2 rh2 x2 => ?_, fun x h' cls dd H' k r rh' x' => qx x h' cls dd H' k r rh' (x1.trans x')⟩
    rw [hK]
    exact ⟨x, y, d, h2, fun h3 => Qc c h3, r1.ext x2, r2, (rv.ext x1).ext x2, rh2, k2, fun h3 H3 k3 rh3 x3 => qq _ _ _ _ k3 (((rs.ext x1).ext x2).ext x3) rh3 ((x1.trans x2).trans x3) (.refl _ _)⟩
end
end Sr

set_option Elab.async false
set_option linter.all false
set_option maxRecDepth 100000
set_option autoImplicit false
/-! Sr10: comprehensions, statements. -/
namespace Sr
open PySem PySem.Spec PyProof.Rows L2
section
variable {X : Cx} {q : Cq} {M : Md} {a b c e tg it elt : Expr} {es rest : List Expr} {pos p : Pos} {ma mb mc me : E} {mes : Es}
/-- the way of looking from within a comprehension: no exception leaves -/
def Cq.blk (q : Cq) : Cq := { q with W := fun _ _ _ _ => False }
theorem wip_len (σ : Sg) : ∀ vs : List Nat, (wip σ vs).length = σ.length
  | [] => rfl
  | v :: vs => by
    show ((wip σ vs).set v none).length = _
    rw [List.length_set, wip_len σ vs]
theorem wip_some {σ : Sg} {i : Nat} {d : D} : ∀ {vs : List Nat}, (wip σ vs)[i]? = some (some d) → σ[i]? = some (some d) ∧ i ∉ vs
  | [], e => ⟨e, List.not_mem_nil⟩
  | v :: vs, e => by
    have e' : ((wip σ vs).set v none)[i]? = some (some d) := e
    by_cases z : v = i
    · subst z
      by_cases hl : v < (wip σ vs).length
      · rw [List.getElem?_set_self hl] at e'; cases e'
      · rw [List.getElem?_eq_none (by rw [List.length_set]; omega)] at e'; cases e'
    · rw [List.getElem?_set_ne z] at e'
      obtain ⟨h1, h2⟩ := wip_some e'
      exact ⟨h1, fun m => by
        rcases List.mem_cons.mp m with h | h
        · exact z h.symm
        · exact h2 h⟩
theorem wipe_out' {σ : L2.St} {i : Nat} : ∀ {vs : List Nat}, i ∉ vs → (wipe σ vs)[i]? = σ[i]?
  | [], _ => rfl
  | v :: vs, n => by
    show ((wipe σ vs).set v none)[i]? = _
    rw [List.getElem?_set_ne (fun z => n (by rw [z]; exact List.mem_cons_self)), wipe_out' fun z => n (List.mem_cons_of_mem _ z)]
theorem Rs.wipe {ev : Option (Nat × Addr)} {H : Hp} {c : Sg} {σ : L2.St} {vs : List Nat} (r : Rs ev H c σ) (ne : ∀ i a, ev = some (i, a) → i ∉ vs) : Rs ev H (wip c vs) (L2.wipe σ vs) where
  len := by rw [wip_len, wipe_length, r.len]
  at_ := fun i d e => by
    obtain ⟨h1, h2⟩ := wip_some e
    rw [wipe_out' h2]
    exact r.at_ i d h1
  ev_ := fun i a e => by
    rw [wipe_out' (ne i a e)]
    exact r.ev_ i a e
theorem drop_cons {xs : List D} {i : Nat} {x : D} (e : xs[i]? = some x) : xs.drop i = x :: xs.drop (i + 1) := by
  obtain ⟨hi, e1⟩ := List.getElem?_eq_some_iff.mp e
  rw [← e1]
  exact List.drop_eq_getElem_cons hi
theorem wipe_in {σ : L2.St} {i : Nat} : ∀ {vs : List Nat}, i ∈ vs → (wipe σ vs)[i]? = if i < σ.length then some none else none
  | v :: vs, m => by
    show ((wipe σ vs).set v none)[i]? = _
    by_cases z : v = i
    · subst z
      by_cases hl : v < σ.length
      · rw [List.getElem?_set_self (by rw [wipe_length]; exact hl), if_pos hl]
      · rw [List.getElem?_eq_none (by rw [List.length_set, wipe_length]; omega), if_neg hl]
    · rw [List.getElem?_set_ne z]
      rcases List.mem_cons.mp m with h | h
      · exact absurd h.symm z
      · exact wipe_in h
theorem wipe_same {σ σ2 : L2.St} {vs sl : List Nat} (s : SameS sl (wipe σ vs) σ2) (hs : ∀ i ∈ sl, i ∈ vs) : wipe σ2 vs = wipe σ vs := by
  have hl : σ2.length = σ.length := by rw [s.1, wipe_length]
  apply List.ext_getElem?
  intro i
  by_cases m : i ∈ vs
  · rw [wipe_in m, wipe_in m, hl]
  · rw [wipe_out' m, s.2 i fun z => m (hs i z)]
/-- the loop of a comprehension, as the layer asks it -/
theorem lc_low {items : List D} {chk : Hc → Prop} {J : L2.It} {tgm : Tg} {cm : Es} {own : List Nat} {cs : Sg} {σ : L2.St} {H1 : Hp} {h1 : Hc} {Dd : Addr} {Qc : Qv} {Qd : Hp → Prop}
    (ir : ItR q.K H1 items chk J) (rs : Rs q.ev H1 cs σ) (ne : ∀ i a, q.ev = some (i, a) → i ∉ own) (rh : RH q.K H1 h1) (nd : H1 Dd = none) (ho : ∀ i ∈ tgm.slots, i ∈ own)
    (w : wpLc chk Dd (fun d σ h q => wpTg M tgm d σ h q fun _ _ => False) (fun σ h q => wpCs M cm σ h q) (fun σ h q => wpE M me σ h q fun _ _ => False) own cs Qc items (hset h1 Dd (.lst [])))
    (fin : ∀ H h, Qc (.ref Dd) h → RH q.K H h → Ext H1 H → Qd H) :
    ∃ W : Nat → Nat → Hp → Prop, (∃ m, W 0 m (upd H1 Dd (.lst []))) ∧ ∀ i m H, W i m H →
      (J.stop i H ∧ Qd H) ∨ (J.go i H ∧ ∃ Nx : Hp → Prop, (∀ H', Nx H' → ∃ m', m' < m ∧ W (i + 1) m' H') ∧ ∀ x H', J.yld i H x H' → lowG q.blk tgm.slots (wpTg M tgm) x (L2.wipe σ own) H' fun σ2 H2 => L2.wipe σ2 own = L2.wipe σ own ∧
        lowT q.blk (fun σ h Q _ => wpCs M cm σ h Q) σ2 H2 fun b H3 => if b = true then low q.blk (wpE M me) σ2 H3 fun y H4 => ∃ acc, H4 Dd = some (.lst acc) ∧ acc.length < sizeLine ∧ Nx (upd H4 Dd (.lst (acc ++ [y]))) else Nx H3) := by
  refine ⟨fun i m H => ∃ h, m = items.length - i ∧ i ≤ items.length ∧ RH q.K H h ∧ Ext H1 H ∧ wpLc chk Dd (fun d σ h q => wpTg M tgm d σ h q fun _ _ => False) (fun σ h q => wpCs M cm σ h q) (fun σ h q => wpE M me σ h q fun _ _ => False) own cs Qc (items.drop i) h,
    ⟨items.length, _, rfl, Nat.zero_le _, rh.lstNew nd .nil, Ext.new nd, w⟩, fun i m H ⟨h, em, hi, rhh, xh, wh⟩ => ?_⟩
  by_cases e : i = items.length
  · subst e
    rw [List.drop_length] at wh
    exact .inl ⟨ir.stop h H xh wh.1 rhh, fin H h wh.2 rhh xh⟩
  · have hlt : i < items.length := by omega
    rw [List.drop_eq_getElem_cons hlt] at wh
    obtain ⟨ck, wg⟩ := wh
    refine .inr ⟨ir.go i h H xh hlt ck rhh, fun H' => ∃ h', RH q.K H' h' ∧ Ext H1 H' ∧ wpLc chk Dd (fun d σ h q => wpTg M tgm d σ h q fun _ _ => False) (fun σ h q => wpCs M cm σ h q) (fun σ h q => wpE M me σ h q fun _ _ => False) own cs Qc (items.drop (i + 1)) h',
      fun H' ⟨h', r', x', w'⟩ => ⟨items.length - (i + 1), by omega, h', rfl, by omega, r', x', w'⟩, fun x H' hy => ?_⟩
    obtain ⟨d, ed, rd, rh', x'⟩ := ir.yld i h H x H' xh hlt ck rhh hy
    have exd : items[i] = d := Option.some.inj ((List.getElem?_eq_getElem hlt).symm.trans ed)
    rw [exd] at wg
    refine ⟨d, wip cs own, h, _, fun _ _ => False, rd, (rs.ext (xh.trans x')).wipe ne, rh', wg, fun c2 h2 σ2 H2 ⟨kw, k2⟩ rs2 rh2 x2 s2 => ?_, fun _ _ _ _ _ z => z.elim⟩
    refine ⟨wipe_same s2 ho, c2, h2, _, fun _ _ => False, rs2, rh2, k2, fun b h3 H3 k3 rh3 x3 => ?_, fun _ _ _ _ _ z => z.elim⟩
    cases b with
    | false => exact ⟨h3, rh3, ((xh.trans x').trans x2).trans x3, k3⟩
    | true =>
      refine ⟨c2, h3, _, fun _ _ => False, rs2.ext x3, rh3, k3, fun y h4 v H4 ⟨acc, ea, hl, k4⟩ r4 rh4 x4 => ?_, fun _ _ _ _ _ z => z.elim⟩
      obtain ⟨vs, e1, rsv⟩ := rh4.lst ea
      obtain ⟨g1, g2⟩ := rh4.lstPut (a := Dd) (ds := acc ++ [y]) ea (rsv.app (.cons r4 .nil))
      exact ⟨vs, e1, by rw [← rsv.len]; exact hl, _, g1, ((((xh.trans x').trans x2).trans x3).trans x4).trans g2, k4⟩
theorem x_lc {tgm : Tg} {itm : It} {cm : Es} {ifs : List Expr} {scope : Scope} {own : List (Str × Nat)} (hc : X.calm = true) (hN : X.N.Nodup) (hi : PI X tg it (lowI q (wpIt M itm))) (ok : BlkOk X.N X.env.scope scope own)
    (hg : ∀ (s : Shared) (H : Hp) (C : Addr) (cl : List (Str × Addr)) (fp : List Addr), PG (X.blk s H scope (compEnvC scope cl C X.env) fp) tg (lowG q.blk tgm.slots (wpTg M tgm)))
    (ht : ∀ (s : Shared) (H : Hp) (C : Addr) (cl : List (Str × Addr)) (fp : List Addr), PTs (X.blk s H scope (compEnvC scope cl C X.env) fp) ifs (lowT q.blk fun σ h Q _ => wpCs M cm σ h Q))
    (he : ∀ (s : Shared) (H : Hp) (C : Addr) (cl : List (Str × Addr)) (fp : List Addr), PE (X.blk s H scope (compEnvC scope cl C X.env) fp) elt (low q.blk (wpE M me)))
    (hs : ∀ x, foldedSetIterable it X.env x = pure x) (ne : ∀ i a, q.ev = some (i, a) → i ∉ own.map (·.2)) (ho : ∀ i ∈ tgm.slots, i ∈ own.map (·.2)) :
    PE X (.ListComp elt [⟨tg, it, ifs, 0⟩] scope pos) (low q (wpE M (.lc me tgm itm cm (own.map (·.2))))) :=
  (pe_lc hc hN hi ok hg ht he hs).imp fun σ H Q w => by
    obtain ⟨c, h, Qc, Xc, rs, rh, k, qq, qx⟩ := w
    refine ⟨c, h, _, Xc, rs, rh, k, fun items chk h1 H1 J k1 rh1 x1 ir Dd nd => ?_, qx⟩
    exact lc_low ir (rs.ext x1) ne rh1 nd ho (k1 Dd (rh1.free nd)) fun H2 h2 k2 rh2 x2 => qq _ _ _ _ k2 rfl rh2 (x1.trans x2)
/-- the same, stored by a plain name on its own line -/
theorem s_setLc {y : Str} {py spos : Pos} {i : Nat} {tgm : Tg} {itm : It} {cm : Es} {ifs : List Expr} {scope : Scope} {own : List (Str × Nat)} (hc : X.calm = true) (hN : X.N.Nodup) (hy : X.N[i]? = some y) (hyl : X.env.scope.names.lookup y = some .local)
    (hsw : swapsWith (.ListComp elt [⟨tg, it, ifs, 0⟩] scope pos) (some (.Name y py)) spos.line X.env = pure true) (hi : PI X tg it (lowI q (wpIt M itm))) (ok : BlkOk X.N X.env.scope scope own)
    (hg : ∀ (s : Shared) (H : Hp) (C : Addr) (cl : List (Str × Addr)) (fp : List Addr), PG (X.blk s H scope (compEnvC scope cl C X.env) fp) tg (lowG q.blk tgm.slots (wpTg M tgm)))
    (ht : ∀ (s : Shared) (H : Hp) (C : Addr) (cl : List (Str × Addr)) (fp : List Addr), PTs (X.blk s H scope (compEnvC scope cl C X.env) fp) ifs (lowT q.blk fun σ h Q _ => wpCs M cm σ h Q))
    (he : ∀ (s : Shared) (H : Hp) (C : Addr) (cl : List (Str × Addr)) (fp : List Addr), PE (X.blk s H scope (compEnvC scope cl C X.env) fp) elt (low q.blk (wpE M me)))
    (hs : ∀ x, foldedSetIterable it X.env x = pure x) (ne : ∀ i a, q.ev = some (i, a) → i ∉ own.map (·.2)) (ho : ∀ i ∈ tgm.slots, i ∈ own.map (·.2)) (ny : ∀ a, q.ev ≠ some (i, a)) :
    PS X (.Assign [.Name y py] (.ListComp elt [⟨tg, it, ifs, 0⟩] scope pos) spos) (lowS q (wpS M (.asg (.nm i) (.lc me tgm itm cm (own.map (·.2)))))) :=
  (ps_setLc hc hN hy hyl hsw hi ok hg ht he hs).imp fun D σ H w => by
    obtain ⟨c, h, Kc, rs, rh, k, nx, rt, ex⟩ := w
    refine ⟨c, h, _, _, rs, rh, k, fun items chk h1 H1 J k1 rh1 x1 ir Dd nd => ?_, fun x h' cls dd H' kk r rh' x' => ex x c h' cls dd σ H' kk r (rs.ext x') rh' x'⟩
    exact lc_low ir (rs.ext x1) ne rh1 nd ho (k1 Dd (rh1.free nd)) fun H2 h2 k2 rh2 x2 => nx _ _ _ _ k2 (((rs.ext x1).ext x2).put rfl ny) rh2 (x1.trans x2)
theorem cs_nil {q : Cq} : PTs X [] (lowT q fun σ h Q _ => wpCs M .nil σ h Q) := by
  refine ⟨fun pins s σ H Q I w => pts_nil.run pins s σ H Q I ?_⟩
  obtain ⟨c, h, Qc, Xc, rs, rh, k, qq, qx⟩ := w
  exact qq _ _ _ k rh (.refl _)
theorem cs_one (h : PT X e (lowT q.blk (wpT M me))) : PTs X [e] (lowT q.blk fun σ h Q _ => wpCs M (.cons me .nil) σ h Q) := by
  refine ⟨fun pins s σ H Q I w => (pts_one h).run pins s σ H Q I ?_⟩
  obtain ⟨c, h, Qc, Xc, rs, rh, k, qq, qx⟩ := w
  exact ⟨c, h, Qc, fun _ _ => False, rs, rh, k, qq, fun _ _ _ _ _ z => z.elim⟩
/-! ### statements -/
theorem s_ex (he : PE X e (low q (wpE M me))) (hs : swapsWith e none pos.line X.env = pure false) : PS X (.Expr e pos) (lowS q (wpS M (.ex me))) :=
  (ps_expr he hs).imp fun D σ H w => by
    obtain ⟨c, h, Kc, rs, rh, k, nx, rt, ex⟩ := w
    exact ⟨c, h, _, _, rs, rh, k, fun d h1 v H1 k1 r1 rh1 x1 => nx _ _ _ _ k1 (rs.ext x1) rh1 x1, fun x h' cls dd H' kk r rh' x' => ex x c h' cls dd σ H' kk r (rs.ext x') rh' x'⟩
theorem asg_low {t : Tg} {sl : List Nat} {D : Ends} {σ : L2.St} {H : Hp} (w : lowS q (wpS M (.asg t me)) D σ H) : tAsg (low q (wpE M me)) (lowG q sl (wpTg M t)) D σ H := by
  obtain ⟨c, h, Kc, rs, rh, k, nx, rt, ex⟩ := w
  refine ⟨c, h, _, _, rs, rh, k, fun d h1 v H1 k1 r1 rh1 x1 => ?_, fun x h' cls dd H' kk r rh' x' => ex x c h' cls dd σ H' kk r (rs.ext x') rh' x'⟩
  exact ⟨d, c, h1, _, _, r1, rs.ext x1, rh1, k1, fun c' h' σ' H' k' rs' rh' x' _ => nx _ _ _ _ k' rs' rh' (x1.trans x'), fun x h' cls dd H' kk r rh' x' => ex x c h' cls dd σ H' kk r ((rs.ext x1).ext x') rh' (x1.trans x')⟩
theorem s_asg {t : Tg} {sl : List Nat} (he : PE X e (low q (wpE M me))) (hg : PG X tg (lowG q sl (wpTg M t))) (hs : swapsWithSole [tg] e pos.line X.env = pure false) (hw : swappedStores [tg] e X.env = pure none) (h1 : (assignEach [tg] X.env).map (·.2) = [assign tg X.env]) :
    PS X (.Assign [tg] e pos) (lowS q (wpS M (.asg t me))) := (ps_asg he hg hs hw h1).imp fun D σ H w => asg_low w
theorem s_par {i j : Nat} {x y : Str} {px py pt : Pos} {kt k2 : Nat} {pt2 : Pos} (hc : X.calm = true) (hN : X.N.Nodup) (hi : X.N[i]? = some x) (hj : X.N[j]? = some y) (hij : i ≠ j) (hx : X.env.scope.names.lookup x = some .local) (hy : X.env.scope.names.lookup y = some .local)
    (ha : PA X [a, b] (lowA q (wpEs M (.cons ma (.cons mb .nil))))) (hw : swappedStores [.Tuple [.Name x px, .Name y py] kt pt] (.Tuple [a, b] k2 pt2) X.env = pure (some [x, y]))
    (hs : swapsWithSole [.Tuple [.Name x px, .Name y py] kt pt] (.Tuple [a, b] k2 pt2) pos.line X.env = pure false) (ni : ∀ a, q.ev ≠ some (i, a)) (nj : ∀ a, q.ev ≠ some (j, a)) :
    PS X (.Assign [.Tuple [.Name x px, .Name y py] kt pt] (.Tuple [a, b] k2 pt2) pos) (lowS q (wpS M (.par i j ma mb))) :=
  (ps_par hc hN hi hj hij hx hy ha hw hs).imp fun D σ H w => by
    obtain ⟨c, h, Kc, rs, rh, k, nx, rt, ex⟩ := w
    refine ⟨c, h, fun ds h2 => ∃ x y, ds = [x, y] ∧ Kc.nx ((c.set i (some x)).set j (some y)) h2, _, rs, rh, k, fun ds h1 vs H1 ⟨x, y, e1, k1⟩ r1 rh1 x1 => ?_, fun x h' cls dd H' kk r rh' x' => ex x c h' cls dd σ H' kk r (rs.ext x') rh' x'⟩
    subst e1
    obtain ⟨v, u, rfl, r2, r3⟩ := r1.two
    exact ⟨v, u, rfl, nx _ _ _ _ k1 (((rs.ext x1).put r2 ni).put r3 nj) rh1 x1⟩
end
end Sr

set_option Elab.async false
set_option linter.all false
set_option maxRecDepth 100000
set_option autoImplicit false
/-! Sr11: statements, blocks. -/
namespace Sr
open PySem PySem.Spec PyProof.Rows L2
section
variable {X : Cx} {q : Cq} {M : Md} {a b c e tg it elt : Expr} {es rest : List Expr} {pos p : Pos} {ma mb mc me : E} {mes : Es}
theorem s_aug {x : Str} {i : Nat} {o : Bin} (hK : X.K = q.K) (hN : X.N.Nodup) (hi : X.N[i]? = some x) (hx : Loc X.env.scope x) (hf : X.fn x = true ∨ X.env.scope.names.lookup x = some .local) (he : PE X e (low q (wpE M me))) (ny : ∀ a, q.ev ≠ some (i, a)) :
    PS X (.AugAssign (.Name x p) (opOf o) e pos) (lowS q (wpS M (.aug i o me))) :=
  (ps_aug hN hi hx he (iop_aug o) hf).imp fun D σ H w => by
    obtain ⟨c, h, Kc, rs, rh, ⟨x, ex, k⟩, nx, rt, ex'⟩ := w
    obtain ⟨v, ev, rv⟩ := rs.at_ i x ex
    refine ⟨v, ev, c, h, _, _, rs, rh, k, fun d h1 u H1 k1 r1 rh1 x1 => ?_, fun x h' cls dd H' kk r rh' x' => ex' x c h' cls dd σ H' kk r (rs.ext x') rh' x'⟩
    exact ⟨x, d, h1, _, rv.ext x1, r1, by rw [hK]; exact rh1, k1, fun z h2 w' H2 k2 r2 rh2 x2 => nx _ _ _ _ k2 (((rs.ext x1).ext x2).put r2 ny) (by rw [← hK]; exact rh2) (x1.trans x2)⟩
theorem s_if {bs cs : List Stmt} {mB mC : Ss} (hc : PT X c (lowT q (wpT M mc))) (ha : PSs X bs (lowS q (wpSs M mB))) (hb : PSs X cs (lowS q (wpSs M mC))) : PS X (.If c bs cs pos) (lowS q (wpS M (.ifs mc mB mC))) :=
  (ps_if hc ha hb).imp fun D σ H w => by
    obtain ⟨c, h, Kc, rs, rh, k, nx, rt, ex⟩ := w
    refine ⟨c, h, _, _, rs, rh, k, fun b h1 H1 k1 rh1 x1 => ?_, fun x h' cls dd H' kk r rh' x' => ex x c h' cls dd σ H' kk r (rs.ext x') rh' x'⟩
    cases b with
    | true => exact ⟨c, h1, Kc, rs.ext x1, rh1, k1, fun c' h' σ' H' k rs' rh' x' => nx _ _ _ _ k rs' rh' (x1.trans x'), fun d h' v H' k r rh' x' => rt _ _ _ _ k r rh' (x1.trans x'), fun x c' h' cls dd σ' H' kk r rs' rh' x' => ex _ _ _ _ _ _ _ kk r rs' rh' (x1.trans x')⟩
    | false => exact ⟨c, h1, Kc, rs.ext x1, rh1, k1, fun c' h' σ' H' k rs' rh' x' => nx _ _ _ _ k rs' rh' (x1.trans x'), fun d h' v H' k r rh' x' => rt _ _ _ _ k r rh' (x1.trans x'), fun x c' h' cls dd σ' H' kk r rs' rh' x' => ex _ _ _ _ _ _ _ kk r rs' rh' (x1.trans x')⟩
theorem s_ret (he : PE X e (low q (wpE M me))) : PS X (.Return (some e) pos) (lowS q (wpS M (.ret me))) :=
  (ps_ret he).imp fun D σ H w => by
    obtain ⟨c, h, Kc, rs, rh, k, nx, rt, ex⟩ := w
    exact ⟨c, h, _, _, rs, rh, k, fun d h1 v H1 k1 r1 rh1 x1 => rt _ _ _ _ k1 r1 rh1 x1, fun x h' cls dd H' kk r rh' x' => ex x c h' cls dd σ H' kk r (rs.ext x') rh' x'⟩
theorem s_retN : PS X (.Return none pos) (lowS q (wpS M .retN)) :=
  ps_retN.imp fun D σ H w => by
    obtain ⟨c, h, Kc, rs, rh, k, nx, rt, ex⟩ := w
    exact rt _ _ _ _ k rfl rh (.refl _)
theorem ss_nil : PSs X [] (lowS q (wpSs M .nil)) := ⟨fun pins s σ H D I w => pss_nil.run pins s σ H D I (by
  obtain ⟨c, h, Kc, rs, rh, k, nx, rt, ex⟩ := w
  exact nx _ _ _ _ k rs rh (.refl _))⟩
theorem ss_cons {st : Stmt} {sts : List Stmt} {m : S} {ms : Ss} (h1 : PS X st (lowS q (wpS M m))) (h2 : PSs X sts (lowS q (wpSs M ms))) : PSs X (st :: sts) (lowS q (wpSs M (.cons m ms))) :=
  ⟨fun pins s σ H D I w => (pss_cons h1 h2).run pins s σ H D I (by
    obtain ⟨c, h, Kc, rs, rh, k, nx, rt, ex⟩ := w
    refine ⟨c, h, _, rs, rh, k, fun c1 h1 σ1 H1 k1 rs1 rh1 x1 => ?_, rt, ex⟩
    exact ⟨c1, h1, Kc, rs1, rh1, k1, fun c' h' σ' H' k rs' rh' x' => nx _ _ _ _ k rs' rh' (x1.trans x'), fun d h' v H' k r rh' x' => rt _ _ _ _ k r rh' (x1.trans x'), fun x c' h' cls dd σ' H' kk r rs' rh' x' => ex _ _ _ _ _ _ _ kk r rs' rh' (x1.trans x')⟩)⟩
theorem s_doc {x : Str} {j : Nat} {pos' : Pos} : PS X (.Expr (.Constant (.str x) j pos) pos') (lowS q (wpS M (.ex (.con .non)))) :=
  ps_doc.imp fun D σ H w => by
    obtain ⟨c, h, Kc, rs, rh, k, nx, rt, ex⟩ := w
    exact nx _ _ _ _ k rs rh (.refl _)
theorem s_pass : PS X (.Pass pos) (lowS q (wpS M (.ex (.con .non)))) :=
  ps_pass.imp fun D σ H w => by
    obtain ⟨c, h, Kc, rs, rh, k, nx, rt, ex⟩ := w
    exact nx _ _ _ _ k rs rh (.refl _)
theorem s_while {bs : List Stmt} {mB : Ss} (hp : PassesOwn (model X.prog X.w) X.A X.env X.xe) (hc : PT X c (lowT q (wpT M mc))) (hb : PSs X bs (lowS q (wpSs M mB))) : PS X (.While c bs [] pos) (lowS q (wpS M (.whil mc mB))) :=
  (ps_while hp hc hb).imp fun D σ H w => by
    obtain ⟨c, h, Kc, rs, rh, ⟨W, ⟨m, w0⟩, ws⟩, nx, rt, ex⟩ := w
    refine ⟨fun m σ' H' => ∃ c h, Rs q.ev H' c σ' ∧ RH q.K H' h ∧ Ext H H' ∧ W m c h, ⟨m, c, h, rs, rh, .refl _, w0⟩, fun m σ' H' ⟨c, h, rs, rh, x0, w0⟩ => ?_⟩
    refine ⟨c, h, _, _, rs, rh, ws m c h w0, fun b h1 H1 k1 rh1 x1 => ?_, fun x h' cls dd H' kk r rh' x' => ex x c h' cls dd σ' H' kk r (rs.ext x') rh' (x0.trans x')⟩
    cases b with
    | true =>
      refine ⟨fun σ2 H2 => ∃ c2 h2, Rs q.ev H2 c2 σ2 ∧ RH q.K H2 h2 ∧ Ext H H2 ∧ ∃ m', m' < m ∧ W m' c2 h2, fun σ2 H2 ⟨c2, h2, rs2, rh2, x2, m', hm, w2⟩ => ⟨m', hm, c2, h2, rs2, rh2, x2, w2⟩, ?_⟩
      exact ⟨c, h1, _, rs.ext x1, rh1, k1, fun c' h' σ' H' k rs' rh' x' => ⟨c', h', rs', rh', (x0.trans x1).trans x', k⟩, fun d h' v H' k r rh' x' => rt _ _ _ _ k r rh' ((x0.trans x1).trans x'), fun x c' h' cls dd σ' H' kk r rs' rh' x' => ex _ _ _ _ _ _ _ kk r rs' rh' ((x0.trans x1).trans x')⟩
    | false => exact nx _ _ _ _ k1 (rs.ext x1) rh1 (x0.trans x1)
/-- the turns of a for -/
theorem for_low {items : List D} {chk : Hc → Prop} {J : L2.It} {tgm : Tg} {mB : Ss} {Kc : Kt} {cs : Sg} {σ : L2.St} {H0 H1 : Hp} {h1 : Hc} {sl : List Nat} {D : Ends} (ir : ItR q.K H1 items chk J) (rs : Rs q.ev H1 cs σ) (rh : RH q.K H1 h1) (x0 : Ext H0 H1)
    (w : wpFor chk (fun d σ h q => wpTg M tgm d σ h q fun x h1 => Kc.ex x σ h1) (fun nx σ h => wpSs M mB { Kc with nx := nx } σ h) Kc.nx items cs h1)
    (nx : ∀ c' h' σ' H', Kc.nx c' h' → Rs q.ev H' c' σ' → RH q.K H' h' → Ext H0 H' → D.nx σ' H') (rt : ∀ d h' v H', Kc.rt d h' → Rp H' d v → RH q.K H' h' → Ext H0 H' → D.rt v H')
    (ex : ∀ x c' h' cls dd σ' H', Kc.ex x c' h' → RX q x cls dd H' → Rs q.ev H' c' σ' → RH q.K H' h' → Ext H0 H' → q.W cls dd σ' H') :
    ∃ W : Nat → Nat → L2.St → Hp → Prop, (∃ m, W 0 m σ H1) ∧ ∀ i m σ H, W i m σ H →
      (J.stop i H ∧ D.nx σ H) ∨ (J.go i H ∧ ∃ N : L2.St → Hp → Prop, (∀ σ' H', N σ' H' → ∃ m', m' < m ∧ W (i + 1) m' σ' H') ∧ ∀ x H', J.yld i H x H' → lowG q sl (wpTg M tgm) x σ H' fun σ2 H2 => lowS q (wpSs M mB) { D with nx := N, ct := N, bk := D.nx } σ2 H2) := by
  let F := wpFor chk (fun d σ h q => wpTg M tgm d σ h q fun x h1 => Kc.ex x σ h1) (fun nx σ h => wpSs M mB { Kc with nx := nx } σ h) Kc.nx
  refine ⟨fun i m σ' H' => ∃ c h, m = items.length - i ∧ i ≤ items.length ∧ Rs q.ev H' c σ' ∧ RH q.K H' h ∧ Ext H1 H' ∧ F (items.drop i) c h, ⟨items.length, cs, h1, rfl, Nat.zero_le _, rs, rh, .refl _, w⟩, fun i m σ' H' ⟨c, h, em, hi, rs', rh', xh, wh⟩ => ?_⟩
  by_cases e : i = items.length
  · subst e
    rw [List.drop_length] at wh
    exact .inl ⟨ir.stop h H' xh wh.1 rh', nx _ _ _ _ wh.2 rs' rh' (x0.trans xh)⟩
  · have hlt : i < items.length := by omega
    rw [List.drop_eq_getElem_cons hlt] at wh
    obtain ⟨ck, wg⟩ := wh
    refine .inr ⟨ir.go i h H' xh hlt ck rh', fun σ2 H2 => ∃ c2 h2, Rs q.ev H2 c2 σ2 ∧ RH q.K H2 h2 ∧ Ext H1 H2 ∧ F (items.drop (i + 1)) c2 h2, fun σ2 H2 ⟨c2, h2, r2, rh2, x2, w2⟩ => ⟨items.length - (i + 1), by omega, c2, h2, rfl, by omega, r2, rh2, x2, w2⟩, fun x H2 hy => ?_⟩
    obtain ⟨d, ed, rd, rh2, x2⟩ := ir.yld i h H' x H2 xh hlt ck rh' hy
    have exd : items[i] = d := Option.some.inj ((List.getElem?_eq_getElem hlt).symm.trans ed)
    rw [exd] at wg
    refine ⟨d, c, h, _, _, rd, rs'.ext x2, rh2, wg, fun c3 h3 σ3 H3 k3 rs3 rh3 x3 _ => ?_, fun x h' cls dd H' kk r rh' x' => ex x c h' cls dd _ H' kk r ((rs'.ext x2).ext x') rh' (((x0.trans xh).trans x2).trans x')⟩
    exact ⟨c3, h3, _, rs3, rh3, k3, fun c' h' σ' H' k rs' rh' x' => ⟨c', h', rs', rh', ((xh.trans x2).trans x3).trans x', k⟩, fun d h' v H' k r rh' x' => rt _ _ _ _ k r rh' ((((x0.trans xh).trans x2).trans x3).trans x'), fun x c' h' cls dd σ' H' kk r rs' rh' x' => ex _ _ _ _ _ _ _ kk r rs' rh' ((((x0.trans xh).trans x2).trans x3).trans x')⟩
theorem RO.dic_mut {K : PySem.W.Frag} {H : Hp} {d : Addr} {kvs : List (D × D)} (r : RO K H d (.dic kvs)) : ∃ u, H d = some u ∧ L2.Mut (some u) ∧ DicR H (fun o => o = u) kvs := by
  rcases r with ⟨ks, e, p⟩ | ⟨ks, e, p⟩
  · exact ⟨_, e, trivial, .inl ⟨ks, rfl, p⟩⟩
  · exact ⟨_, e, trivial, .inr ⟨ks, rfl, p⟩⟩
/-- locked -/
theorem RH.lock {K : PySem.W.Frag} {H : Hp} {h : Hc} {d : Addr} {kvs : List (D × D)} {u : HO} (r : RH K H h) (e : h d = some (.dic kvs)) (eu : H d = some u) (m : L2.Mut (some u)) (dr : DicR H (fun o => o = u) kvs) (od : Obj) :
    RH K (L2.upd H d (.frz od u)) (hset h d (.lck (.dic kvs))) ∧ Ext H (L2.upd H d (.frz od u)) := by
  have x : Ext H (L2.upd H d (.frz od u)) := Ext.mut (by rw [eu]; exact m)
  exact ⟨r.upd x (DicR.ext (at' := fun o => ∃ ob, L2.upd H d (.frz od u) d = some (.frz ob o)) x (fun o eo => ⟨od, by rw [eo]; exact upd_same⟩) dr), x⟩
end
end Sr

set_option Elab.async false
set_option linter.all false
set_option maxRecDepth 100000
set_option autoImplicit false
/-! Sr12: for. -/
namespace Sr
open PySem PySem.Spec PyProof.Rows L2
/-- tuples stay -/
def Tx (H H' : Hp) : Prop := ∀ a xs, H a = some (.tup xs) → H' a = some (.tup xs)
mutual
theorem Rp.tx {H H' : Hp} (x : Tx H H') : ∀ {d : D} {v : V}, Rp H d v → Rp H' d v
  | .non, _, r => r
  | .bl _, _, r => r
  | .int _, _, r => r
  | .str _, _, r => r
  | .ref _, _, r => r
  | .tup ds, v, r => by
    obtain ⟨a, xs, e, h, q⟩ := r
    exact ⟨a, xs, e, x a xs h, Rps.tx x q⟩
theorem Rps.tx {H H' : Hp} (x : Tx H H') : ∀ {ds : List D} {vs : List V}, Rps H ds vs → Rps H' ds vs
  | [], _, r => r
  | d :: ds, xs, r => by
    obtain ⟨v, vs, e, h, q⟩ := r
    exact ⟨v, vs, e, Rp.tx x h, Rps.tx x q⟩
end
theorem Rs.tx {ev : Option (Nat × Addr)} {H H' : Hp} {c : Sg} {σ : L2.St} (r : Rs ev H c σ) (x : Tx H H') : Rs ev H' c σ :=
  ⟨r.len, fun i d e => let ⟨v, e1, q⟩ := r.at_ i d e; ⟨v, e1, q.tx x⟩, r.ev_⟩
theorem paired_tx {β : Type} {f : β → D} {H H' : Hp} (x : Tx H H') : ∀ {kvs : List (D × D)} {ks : List (β × V)}, Paired (fun p q => p.1 = f q.1 ∧ Rp H p.2 q.2) kvs ks → Paired (fun p q => p.1 = f q.1 ∧ Rp H' p.2 q.2) kvs ks
  | _, _, .nil => .nil
  | _, _, .cons r t => .cons ⟨r.1, r.2.tx x⟩ (paired_tx x t)
theorem DicR.tx {H H' : Hp} {at_ at' : HO → Prop} {kvs : List (D × D)} (x : Tx H H') (k : ∀ o, at_ o → at' o) (r : DicR H at_ kvs) : DicR H' at' kvs := by
  rcases r with ⟨ks, e, p⟩ | ⟨ks, e, p⟩
  · exact .inl ⟨ks, k _ e, paired_tx x p⟩
  · exact .inr ⟨ks, k _ e, paired_tx (f := fun (z : List Key) => D.tup (z.map keyD)) x p⟩
theorem RO.tkeep {K : PySem.W.Frag} {H H' : Hp} {a : Addr} (x : Tx H H') (e : H' a = H a) : ∀ {mo : MO}, RO K H a mo → RO K H' a mo
  | .lst ds, ⟨xs, q, r⟩ => ⟨xs, e.trans q, r.tx x⟩
  | .dic kvs, r => DicR.tx x (fun o q => e.trans q) r
  | .obj _ _, r => r.elim
  | .lck (.lst ds), ⟨xs, q, r⟩ => ⟨xs, by
      rcases q with q | ⟨ob, q⟩
      · exact .inl (e.trans q)
      · exact .inr ⟨ob, e.trans q⟩, r.tx x⟩
  | .lck (.dic kvs), r => DicR.tx (at_ := fun (o : HO) => ∃ ob, H a = some (HO.frz ob o)) (at' := fun (o : HO) => ∃ ob, H' a = some (HO.frz ob o)) x (fun o ⟨ob, q⟩ => ⟨ob, e.trans q⟩) r
  | .lck (.obj _ _), r => r.elim
  | .lck (.lck _), r => r.elim
/-- unlocked again -/
theorem RH.unlock {K : PySem.W.Frag} {H H' : Hp} {h' : Hc} {d : Addr} {kvs : List (D × D)} {u : HO} {od : Obj} (eu : H d = some u) (m : L2.Mut (some u)) (x : Ext (L2.upd H d (.frz od u)) H') (r : RH K H' h') (e : h' d = some (.lck (.dic kvs))) :
    H' d = some (.frz od u) ∧ RH K (L2.upd H' d u) (hset h' d (.dic kvs)) ∧ Ext H (L2.upd H' d u) ∧ Tx H' (L2.upd H' d u) := by
  have e1 : H' d = some (.frz od u) := x.2 d od u upd_same
  have tx : Tx H' (L2.upd H' d u) := fun b xs eb => by
    have : b ≠ d := fun z => by rw [z, e1] at eb; cases eb
    rw [upd_ne this]; exact eb
  refine ⟨e1, fun b o eb => ?_, ⟨fun b xs eb => ?_, fun b o w eb => ?_⟩, tx⟩
  · by_cases z : b = d
    · subst z
      rw [hset_same] at eb
      cases eb
      refine DicR.tx (at_ := fun (o : HO) => ∃ ob, H' b = some (HO.frz ob o)) (at' := fun o => L2.upd H' b u b = some o) tx (fun o ⟨ob, q⟩ => ?_) (r b _ e)
      rw [e1] at q
      cases q
      exact upd_same
    · rw [hset_ne z] at eb
      exact (r b o eb).tkeep tx (upd_ne z)
  · have z : b ≠ d := fun z => by
      rw [z, eu] at eb
      cases eb; exact m
    rw [upd_ne z]
    exact x.1 b xs (by rw [upd_ne z]; exact eb)
  · have z : b ≠ d := fun z => by
      rw [z, eu] at eb
      cases eb; exact m
    rw [upd_ne z]
    exact x.2 b o w (by rw [upd_ne z]; exact eb)
section
variable {X : Cx} {q : Cq} {M : Md} {a b c e tg it elt : Expr} {es rest : List Expr} {pos p : Pos} {ma mb mc me : E} {mes : Es}
theorem _root_.L2.PS.or {X : Cx} {e : Stmt} {t t' : TS} (h : PS X e t) (h' : PS X e t') : PS X e (fun D σ H => t D σ H ∨ t' D σ H) :=
  ⟨fun pins s σ H D I hw => hw.elim (fun z => h.run pins s σ H D I z) fun z => h'.run pins s σ H D I z⟩
theorem s_for {bs : List Stmt} {mB : Ss} {tgm : Tg} {itm : It} {sl : List Nat} (hp : PassesOwn (model X.prog X.w) X.A X.env X.xe) (hc : X.calm = true) (hi : PI X tg it (lowI q (wpIt M itm))) (hg : PG X tg (lowG q sl (wpTg M tgm))) (hb : PSs X bs (lowS q (wpSs M mB)))
    (hs : ∀ x, foldedSetIterable it X.env x = pure x) : PS X (.For tg it bs [] pos) (lowS q (wpS M (.forr tgm itm mB))) := by
  have H1 : PS X (.For tg it bs [] pos) _ := ps_for hp hc hi hg hb hs
  refine (H1.or (ps_lock H1)).imp fun D σ H w => ?_
  obtain ⟨c, h, Kc, rs, rh, k, nx, rt, ex⟩ := w
  rcases k with k | ⟨d, kvs, ed, k⟩
  · refine .inl ⟨c, h, _, _, rs, rh, k, fun items chk h1 H1 J k1 rh1 x1 ir => ?_, fun x h' cls dd H' kk r rh' x' => ex x c h' cls dd σ H' kk r (rs.ext x') rh' x'⟩
    exact for_low ir (rs.ext x1) rh1 x1 k1 nx rt ex
  · obtain ⟨u, eu, mu, dr⟩ := (rh d _ ed).dic_mut
    refine .inr ⟨d, u, eu, mu, fun od => ?_⟩
    obtain ⟨rh0, xx0⟩ := rh.lock ed eu mu dr od
    refine ⟨c, _, _, fun _ _ => False, rs.ext xx0, rh0, k, fun items chk h1 H1 J k1 rh1 x1 ir => ?_, fun _ _ _ _ _ z => z.elim⟩
    refine for_low (Kc := Lk d kvs Kc) ir ((rs.ext xx0).ext x1) rh1 x1 k1 (fun c' h' σ' H' ⟨el, k'⟩ rs' rh' x' => ?_) (fun v h' v' H' ⟨el, k'⟩ r' rh' x' => ?_) fun _ _ _ _ _ _ _ z => z.elim
    · obtain ⟨g1, g2, g3, g4⟩ := RH.unlock eu mu x' rh' el
      exact ⟨g1, nx _ _ _ _ k' (rs'.tx g4) g2 g3⟩
    · obtain ⟨g1, g2, g3, g4⟩ := RH.unlock eu mu x' rh' el
      exact ⟨g1, rt _ _ _ _ k' (r'.tx g4) g2 g3⟩
end
end Sr

set_option Elab.async false
set_option linter.all false
set_option maxRecDepth 100000
set_option autoImplicit false
set_option maxHeartbeats 2000000
/-! Sr13: from the program's trees to the small syntax: expressions, targets, walks. -/
namespace Sr
open PySem PySem.Spec PyProof.Rows L2
inductive Gk where
  | fn (f : Nat) | con (d : D) | tab (t : List (D × D)) | exc (c : Nat) (plain : Bool)
/-- what is known of the names: their slots, the block's table, the own ones, the module's -/
structure Tv where
  N : List Str
  sc : Scope
  ow : Str → Bool
  Γ : List (Str × Gk)
  cm : Bool := true
  ev : Option Nat := none
/-- the built-in names that are asked for -/
def bltNames : List Str := ["len", "range", "isinstance", "tuple", "list", "int", "str", "bool", "max", "min", "abs", "divmod", "all", "any", "set", "sorted", "enumerate", "zip", "dict"]

/-- a class of exceptions, by its name; 0 is ValueError -/
def excOf (T : Tv) : Expr → Option Nat
  | .Name x _ => if decide (T.sc.names.lookup x = some .globalImplicit) = true then (match T.Γ.lookup x with
    | some (.exc c _) => some c
    | some _ => none
    | none => if x == ("ValueError" : Str) then some 0 else none) else none
  | _ => none
def excEach (T : Tv) : List Expr → Option (List Nat)
  | [] => some []
  | e :: es => match excOf T e, excEach T es with
    | some c, some cs => some (c :: cs)
    | _, _ => none
def excsOf (T : Tv) : Expr → Option (List Nat)
  | .Tuple es _ _ => excEach T es
  | e => (excOf T e).map fun c => [c]
structure Cxo (T : Tv) (X : Cx) (q : Cq) (M : Md) : Prop where
  hN : X.N = T.N
  hsc : X.env.scope = T.sc
  how : X.fn = T.ow
  hK : X.K = q.K
  nd : X.N.Nodup
  hu : X.A.units + 200 < cLine
  calm : T.cm = true → X.calm = true
  tk : Takes X q.W
  ev : ∀ i a, q.ev = some (i, a) → T.ev = some i
  ise : ∀ i nm t cs p p2 pos, T.ev = some i → T.N[i]? = some nm → Gl X "isinstance" → X.mg "isinstance" = none → excsOf T t = some cs → PE X (.Call (.Name "isinstance" p) [.Name nm p2, t] [] pos) (low q (wpE M (.exis cs)))
  atf : ∀ i nm p pos, T.ev = some i → T.N[i]? = some nm → PE X (.Attribute (.Name nm p) "at" pos) (low q (wpE M .exat))
  fn : T.cm = true → ∀ x f, T.Γ.lookup x = some (.fn f) → ∃ k fa fd ps, FnOk X.prog X.w X.K X.mg X.base (L2.CX X.prog X.w) k fa fd ps (spC X.K q.cA (M.C f)) ∧ Room k X.A ∧ X.mg x = some (.ref fa) ∧ PySem.W.keepIn X.K (.ref fa) = true ∧ L2.Binds X.K fd ps []
  con : ∀ x d, T.Γ.lookup x = some (.con d) → ∃ v u, X.mg x = some u ∧ RelV v u ∧ ∀ H, Rp H d v
  tab : ∀ x t, T.Γ.lookup x = some (.tab t) → ∃ ta, TabK X.K X.w ta t ∧ X.mg x = some (.ref ta)
  blt : ∀ x, bltNames.contains x = true → T.Γ.lookup x = none → X.mg x = none

/-! ### small deciders -/
def gd {α : Type} (b : Bool) (x : Option α) : Option α := if b = true then x else none
theorem gd_ok {α : Type} {b : Bool} {x : Option α} {y : α} (h : gd b x = some y) : b = true ∧ x = some y := by
  unfold gd at h
  split at h
  · exact ⟨by assumption, h⟩
  · cases h
def bnd {α β : Type} (x : Option α) (f : α → Option β) : Option β := match x with
  | some a => f a
  | none => none
theorem bnd_ok {α β : Type} {x : Option α} {f : α → Option β} {y : β} (h : bnd x f = some y) : ∃ a, x = some a ∧ f a = some y := by
  unfold bnd at h
  split at h
  · exact ⟨_, rfl, h⟩
  · cases h
def idx : List Str → Str → Option Nat
  | [], _ => none
  | y :: r, x => if y == x then some 0 else (idx r x).map (· + 1)
theorem idx_ok : ∀ {N : List Str} {x : Str} {i : Nat}, idx N x = some i → N[i]? = some x
  | [], _, _, h => by cases h
  | y :: r, x, i, h => by
    unfold idx at h
    split at h
    · rename_i e
      cases h
      simp at e
      rw [e]; rfl
    · cases e : idx r x with
      | none => rw [e] at h; cases h
      | some j =>
        rw [e] at h
        cases h
        simpa using idx_ok e
def visB (sc : Scope) (x : Str) : Bool := decide (sc.names.lookup x = some .local) || decide (sc.names.lookup x = some .cell) || decide (sc.names.lookup x = some .free)
def glB (sc : Scope) (x : Str) : Bool := decide (sc.names.lookup x = some .globalImplicit)
def stB (T : Tv) (x : Str) : Bool := decide (T.sc.names.lookup x = some .local) || (decide (T.sc.names.lookup x = some .cell) && T.ow x)
def dbB (x : Str) : Bool := !(x == ("__debug__" : Str)) && !(x == ("__classdict__" : Str))
theorem dbB_ok {x : Str} (h : dbB x = true) : (x == ("__debug__" : Str)) = false ∧ (x == ("__classdict__" : Str)) = false := by
  unfold dbB at h
  simp only [Bool.and_eq_true, Bool.not_eq_true'] at h
  exact h
theorem visB_ok {sc : Scope} {x : Str} (h : visB sc x = true) : Vis sc x := by
  unfold visB at h
  simp only [Bool.or_eq_true, decide_eq_true_eq] at h
  rcases h with (h | h) | h
  · exact .inl h
  · exact .inr (.inl h)
  · exact .inr (.inr h)
def star : Expr → Bool
  | .Starred _ _ => true
  | _ => false
def noStars (es : List Expr) : Bool := es.all fun e => !star e
theorem ns_cons {e : Expr} {es : List Expr} {env : Env} (h : star e = false) : starEach (e :: es) env = (false, eval e env) :: starEach es env := by
  cases e <;> first | rfl | cases h
theorem ns_asg {e : Expr} {es : List Expr} {env : Env} (h : star e = false) : assignEach (e :: es) env = (false, assign e env) :: assignEach es env := by
  cases e <;> first | rfl | cases h
theorem ns_any {pos : Pos} {env : Env} : ∀ {es : List Expr}, noStars es = true → (backTo pos (starEach es env)).any (·.1) = false
  | [], _ => rfl
  | e :: es, h => by
    unfold noStars at h
    rw [List.all_cons, Bool.and_eq_true] at h
    rw [ns_cons (by simpa using h.1)]
    exact (ns_any (es := es) h.2)
theorem ns_all {pos : Pos} {env : Env} : ∀ {es : List Expr}, noStars es = true → (backTo pos (starEach es env)).all (fun x => !x.1) = true
  | [], _ => rfl
  | e :: es, h => by
    unfold noStars at h
    rw [List.all_cons, Bool.and_eq_true] at h
    rw [ns_cons (by simpa using h.1)]
    exact (ns_all (es := es) h.2)
def esM (f : Expr → Option E) : List Expr → Option Es
  | [] => some .nil
  | e :: es => gd (!star e) (bnd (f e) fun m => bnd (esM f es) fun ms => some (.cons m ms))
theorem esM_ns {f : Expr → Option E} : ∀ {es : List Expr} {ms : Es}, esM f es = some ms → noStars es = true ∧ ms.len = es.length
  | [], _, h => by cases h; exact ⟨rfl, rfl⟩
  | e :: es, ms, h => by
    obtain ⟨h1, h2⟩ := gd_ok h
    obtain ⟨m, e1, h3⟩ := bnd_ok h2
    obtain ⟨ms', e2, h4⟩ := bnd_ok h3
    cases h4
    obtain ⟨g1, g2⟩ := esM_ns e2
    refine ⟨?_, congrArg Nat.succ g2⟩
    unfold noStars at *
    rw [List.all_cons, h1, g1]; rfl
def binOf : Operator → Option Bin
  | .Add => some .add | .Sub => some .sub | .Mult => some .mul | .FloorDiv => some .fdiv | .Mod => some .mod | .Pow => some .pow | _ => none
def cmpOf : CmpOp → Option Cm
  | .Eq => some .eq | .NotEq => some .ne | .Lt => some .lt | .LtE => some .le | .Gt => some .gt | .GtE => some .ge | .Is => some .is | .IsNot => some .isnot | .In => some .isin | .NotIn => some .notin
theorem binOf_ok {o : Operator} {b : Bin} (h : binOf o = some b) : opOf b = o := by cases o <;> first | (cases h; rfl) | cases h
theorem cmpOf_ok {o : CmpOp} {b : Cm} (h : cmpOf o = some b) : cmOf b = o := by cases o <;> first | (cases h; rfl) | cases h
def setB : Expr → Bool
  | .Set _ _ _ => true
  | _ => false
theorem set_nm {o : CmpOp} {b : Expr} (h : setB b = false) : behindInMarks o b = false := by cases b <;> first | rfl | cases h
def plB : Expr → Bool
  | .Slice _ _ _ _ => false
  | _ => true
theorem plB_ok {b : Expr} (h : plB b = true) : PlainIx b := fun o i => by cases b <;> first | rfl | cases h
/-- its truth is its value's -/
def truB : Expr → Bool
  | .Name _ _ => true | .Call _ _ _ _ => true | .Subscript _ _ _ => true | .Attribute _ _ _ => true | _ => false
theorem truB_ok {e : Expr} {env : Env} (h : truB e = true) : ∀ whole, isTrue e env whole = (do let v ← whole; standAt e.pos; holding [v] (truthy v)) := fun whole => by
  cases e <;> first | rfl | cases h
def truE : E → Bool
  | .var _ => true | .ix _ _ => true | .call _ _ => true | .bi _ _ => true | .isi _ _ => true | .exis _ => true | _ => false
theorem truE_ok {M : Md} {m : E} (h : truE m = true) {σ : Sg} {hh : Hc} {Q : Bool → Hc → Prop} {X : Qx} (w : wpT M m σ hh Q X) : wpE M m σ hh (fun z h2 => ∃ k, Tru h2 z k ∧ Q k h2) X := by
  cases m <;> first | exact w | cases h
def baseB : Expr → Bool
  | .Name _ _ => true | .Subscript _ _ _ => true | .Attribute _ _ _ => true | .Constant _ _ _ => true | _ => false
theorem baseB_ok {e : Expr} {x : Str} {env : Env} (h : baseB e = true) : attributeBase e x env (eval e env) = eval e env := by cases e <;> first | rfl | cases h
theorem fold_ok {e : Expr} {env : Env} (h : setB e = false) : ∀ x, foldedSetIterable e env x = pure x := fun x => by cases e <;> first | rfl | cases h
/-! ### built-in names -/
def biOf (x : Str) : Option Bi :=
  if x == ("len" : Str) then some .len else if x == ("list" : Str) then some .list else if x == ("tuple" : Str) then some .tuple else if x == ("max" : Str) then some .max else if x == ("min" : Str) then some .min else
  if x == ("int" : Str) then some .int else if x == ("str" : Str) then some .str else if x == ("abs" : Str) then some .abs else if x == ("divmod" : Str) then some .divmod else if x == ("all" : Str) then some .all else if x == ("any" : Str) then some .any else none
def calmB : Bi → Bool
  | .max => true | .min => true | .all => true | .any => true | _ => false
def tyOf (x : Str) : Option Ty :=
  if x == ("int" : Str) then some .int else if x == ("bool" : Str) then some .bool else if x == ("str" : Str) then some .str else if x == ("tuple" : Str) then some .tuple else if x == ("list" : Str) then some .list else none
def mtOf (x : Str) : Option Mt :=
  if x == ("append" : Str) then some .append else if x == ("pop" : Str) then some .pop else if x == ("clear" : Str) then some .clear else if x == ("reverse" : Str) then some .reverse else none
section
variable {X : Cx} {q : Cq} {M : Md} {a b c e tg it elt : Expr} {es rest : List Expr} {pos p : Pos} {ma mb mc me : E} {mes : Es}
theorem x_bi {x : Str} {bi : Bi} (hb : biOf x = some bi) (hK : X.K = q.K) (hc : calmB bi = true → X.calm = true) (hg : Gl X x) (hm : X.mg x = none) (ha : PA X (e :: es) (lowA q (wpEs M mes))) (he : starEach (e :: es) X.env = (false, eval e X.env) :: starEach es X.env) (hpl : (backTo pos (starEach es X.env)).any (·.1) = false) :
    PE X (.Call (.Name x p) (e :: es) [] pos) (low q (wpE M (.bi bi mes))) := by
  unfold biOf at hb
  split at hb
  · rename_i z; cases hb; simp at z; subst z; exact x_biB hK cb_len hg hm (by decide +kernel) (by decide +kernel) (by decide +kernel) ha he hpl
  split at hb
  · rename_i z; cases hb; simp at z; subst z; exact x_biT hK cb_list hg hm (by decide +kernel) (by decide +kernel) (by decide +kernel) ha he hpl
  split at hb
  · rename_i z; cases hb; simp at z; subst z; exact x_biT hK cb_tuple hg hm (by decide +kernel) (by decide +kernel) (by decide +kernel) ha he hpl
  split at hb
  · rename_i z; cases hb; simp at z; subst z; exact x_biB hK (cb_max (hc rfl)) hg hm (by decide +kernel) (by decide +kernel) (by decide +kernel) ha he hpl
  split at hb
  · rename_i z; cases hb; simp at z; subst z; exact x_biB hK (cb_min (hc rfl)) hg hm (by decide +kernel) (by decide +kernel) (by decide +kernel) ha he hpl
  split at hb
  · rename_i z; cases hb; simp at z; subst z; exact x_biT hK cb_int hg hm (by decide +kernel) (by decide +kernel) (by decide +kernel) ha he hpl
  split at hb
  · rename_i z; cases hb; simp at z; subst z; exact x_biT hK cb_str hg hm (by decide +kernel) (by decide +kernel) (by decide +kernel) ha he hpl
  split at hb
  · rename_i z; cases hb; simp at z; subst z; exact x_biB hK cb_abs hg hm (by decide +kernel) (by decide +kernel) (by decide +kernel) ha he hpl
  split at hb
  · rename_i z; cases hb; simp at z; subst z; exact x_biB hK cb_divmod hg hm (by decide +kernel) (by decide +kernel) (by decide +kernel) ha he hpl
  split at hb
  · rename_i z; cases hb; simp at z; subst z; exact x_biB hK (cb_all (hc rfl)) hg hm (by decide +kernel) (by decide +kernel) (by decide +kernel) ha he hpl
  split at hb
  · rename_i z; cases hb; simp at z; subst z; exact x_biB hK (cb_any (hc rfl)) hg hm (by decide +kernel) (by decide +kernel) (by decide +kernel) ha he hpl
  · cases hb
theorem x_isiX {p2 : Pos} {x : Str} {t : Ty} (ht : tyOf x = some t) (hK : X.K = q.K) (hg : Gl X "isinstance") (hm : X.mg "isinstance" = none) (hg2 : Gl X x) (hm2 : X.mg x = none) (ha : PE X a (low q (wpE M ma)))
    (h1 : starEach [a, .Name x p2] X.env = (false, eval a X.env) :: starEach [.Name x p2] X.env) : PE X (.Call (.Name "isinstance" p) [a, .Name x p2] [] pos) (low q (wpE M (.isi ma [t]))) := by
  unfold tyOf at ht
  split at ht
  · rename_i z; cases ht; simp at z; subst z; exact x_isi hK (by decide +kernel) (by decide +kernel) (by decide +kernel) hg hm hg2 hm2 ha h1
  split at ht
  · rename_i z; cases ht; simp at z; subst z; exact x_isi hK (by decide +kernel) (by decide +kernel) (by decide +kernel) hg hm hg2 hm2 ha h1
  split at ht
  · rename_i z; cases ht; simp at z; subst z; exact x_isi hK (by decide +kernel) (by decide +kernel) (by decide +kernel) hg hm hg2 hm2 ha h1
  split at ht
  · rename_i z; cases ht; simp at z; subst z; exact x_isi hK (by decide +kernel) (by decide +kernel) (by decide +kernel) hg hm hg2 hm2 ha h1
  split at ht
  · rename_i z; cases ht; simp at z; subst z; exact x_isi hK (by decide +kernel) (by decide +kernel) (by decide +kernel) hg hm hg2 hm2 ha h1
  · cases ht
end
end Sr

set_option Elab.async false
set_option linter.all false
set_option maxRecDepth 100000
set_option autoImplicit false
set_option maxHeartbeats 2000000
/-! Sr14: the translator, and why it may be trusted. -/
namespace Sr
open PySem PySem.Spec PyProof.Rows L2
section
variable {X : Cx} {q : Cq} {M : Md} {a b c e tg it elt : Expr} {es rest : List Expr} {pos p : Pos} {ma mb mc me : E} {mes : Es}
theorem ns_few {env : Env} (h : noStars es = true) (hl : es.length < 30) : ((backTo pos (starEach es env)).all (fun x => !x.1) && (backToKw pos (keywordEach [] env)).all (fun x => x.1.isSome) && decide (es.length + ([] : List Keyword).length + (if ([] : List Keyword).isEmpty then 0 else 1) < 30)) = true := by
  rw [ns_all h]
  simp [keywordEach, backToKw, hl]
theorem x_meth0 {x : Str} {m : Mt} {apos : Pos} (hm : mtOf x = some m) (hK : X.K = q.K) (ho : PE X a (low q (wpE M ma))) (hbase : attributeBase a x X.env (eval a X.env) = eval a X.env) (hline : (apos.endLine == pos.line) = true) : PE X (.Call (.Attribute a x apos) [] [] pos) (low q (wpE M (.mt m ma .nil))) := by
  unfold mtOf at hm
  split at hm
  · rename_i z; cases hm; simp at z; subst z; exact x_mt0 hK PySem.F.plainAttrs_list PySem.F.slot_list_append PySem.F.type_list_append mb_append ho hbase hline
  split at hm
  · rename_i z; cases hm; simp at z; subst z; exact x_mt0 hK PySem.F.plainAttrs_list PySem.F.slot_list_pop PySem.F.type_list_pop mb_pop ho hbase hline
  split at hm
  · rename_i z; cases hm; simp at z; subst z; exact x_mt0 hK PySem.F.plainAttrs_list PySem.F.slot_list_clear PySem.F.type_list_clear mb_clear ho hbase hline
  split at hm
  · rename_i z; cases hm; simp at z; subst z; exact x_mt0 hK PySem.F.plainAttrs_list PySem.F.slot_list_reverse PySem.F.type_list_reverse mb_reverse ho hbase hline
  · cases hm
theorem x_meth {x : Str} {m : Mt} {apos : Pos} (hm : mtOf x = some m) (hK : X.K = q.K) (ho : PE X a (low q (wpE M ma))) (ha : PA X (e :: es) (lowA q (wpEs M mes))) (hbase : attributeBase a x X.env (eval a X.env) = eval a X.env) (hline : (apos.endLine == pos.line) = true) (hn : noStars (e :: es) = true) (hl : (e :: es).length < 30) :
    PE X (.Call (.Attribute a x apos) (e :: es) [] pos) (low q (wpE M (.mt m ma mes))) := by
  have hs : star e = false ∧ noStars es = true := by
    unfold noStars at hn ⊢
    rw [List.all_cons, Bool.and_eq_true] at hn
    exact ⟨by simpa using hn.1, hn.2⟩
  unfold mtOf at hm
  split at hm
  · rename_i z; cases hm; simp at z; subst z; exact x_mt hK PySem.F.plainAttrs_list PySem.F.slot_list_append PySem.F.type_list_append mb_append ho ha hbase hline (ns_few hn hl) (ns_cons hs.1) (ns_any hs.2)
  split at hm
  · rename_i z; cases hm; simp at z; subst z; exact x_mt hK PySem.F.plainAttrs_list PySem.F.slot_list_pop PySem.F.type_list_pop mb_pop ho ha hbase hline (ns_few hn hl) (ns_cons hs.1) (ns_any hs.2)
  split at hm
  · rename_i z; cases hm; simp at z; subst z; exact x_mt hK PySem.F.plainAttrs_list PySem.F.slot_list_clear PySem.F.type_list_clear mb_clear ho ha hbase hline (ns_few hn hl) (ns_cons hs.1) (ns_any hs.2)
  split at hm
  · rename_i z; cases hm; simp at z; subst z; exact x_mt hK PySem.F.plainAttrs_list PySem.F.slot_list_reverse PySem.F.type_list_reverse mb_reverse ho ha hbase hline (ns_few hn hl) (ns_cons hs.1) (ns_any hs.2)
  · cases hm
end
/-! ### the translator -/
structure Trs where
  e : Tv → Expr → Option E
  t : Tv → Expr → Option E
  g : Tv → Expr → Option Tg
  i : Tv → Expr → Option It
structure Snd (R : Trs) : Prop where
  e : ∀ (T : Tv) (X : Cx) (q : Cq) (M : Md) (e : Expr) (m : E), Cxo T X q M → R.e T e = some m → PE X e (low q (wpE M m))
  t : ∀ (T : Tv) (X : Cx) (q : Cq) (M : Md) (e : Expr) (m : E), Cxo T X q M → R.t T e = some m → PT X e (lowT q (wpT M m))
  g : ∀ (T : Tv) (X : Cx) (q : Cq) (M : Md) (e : Expr) (m : Tg), Cxo T X q M → R.g T e = some m → PG X e (lowG q m.slots (wpTg M m))
  i : ∀ (T : Tv) (X : Cx) (q : Cq) (M : Md) (tg e : Expr) (m : It), Cxo T X q M → R.i T e = some m → PI X tg e (lowI q (wpIt M m))
def ownOf (N : List Str) (names : List (Str × NameKind)) : List (Str × Nat) := names.filterMap fun p => if p.2 = .local ∨ p.2 = .cell then (idx N p.1).map fun i => (p.1, i) else none
def blkB (N : List Str) (sc scope : Scope) (own : List (Str × Nat)) : Bool :=
  decide (scope.kind = .function) && scope.names.all (fun y => decide (scope.names.lookup y.1 = some y.2)) && own.all (fun p => decide (N[p.2]? = some p.1)) &&
  scope.names.all (fun y => !decide (y.2 = .free) || decide (sc.names.lookup y.1 = some .cell) || decide (sc.names.lookup y.1 = some .free)) &&
  scope.names.all (fun y => !(decide (y.2 = .local) || decide (y.2 = .cell)) || own.any (fun p => decide (p.1 = y.1)) || !N.contains y.1)
theorem blkB_ok {N : List Str} {sc scope : Scope} {own : List (Str × Nat)} (h : blkB N sc scope own = true) : BlkOk N sc scope own := by
  unfold blkB at h
  simp only [Bool.and_eq_true, decide_eq_true_eq, List.all_eq_true, Bool.or_eq_true, Bool.not_eq_true', decide_eq_false_iff_not, List.any_eq_true] at h
  obtain ⟨⟨⟨⟨h1, h2⟩, h3⟩, h4⟩, h5⟩ := h
  refine ⟨h1, h2, h3, fun y hy e => ?_, fun y hy e => ?_⟩
  · rcases h4 y hy with (h | h) | h
    · exact absurd e h
    · exact .inl h
    · exact .inr h
  · rcases h5 y hy with (h | ⟨p, hp, ep⟩) | h
    · simp at h
      rcases e with e | e
      · exact absurd e h.1
      · exact absurd e h.2
    · exact .inl (List.mem_map.mpr ⟨p, hp, ep⟩)
    · exact .inr (by simpa using h)
theorem takesN {X : Cx} : Takes X (fun _ _ _ _ => False) := fun u s' ⟨_, _, _, _, _, _, _, _, _, _, _, _, _, _, _, _, w⟩ => w.elim
def Tv.blk (T : Tv) (scope : Scope) : Tv := { T with sc := relS scope T.sc, ow := fun x => scope.names.lookup x == some .cell }
theorem Cxo.blk {T : Tv} {X : Cx} {q : Cq} {M : Md} (o : Cxo T X q M) (n : T.ev = none) (s : Shared) (H : Hp) (scope : Scope) (cl : List (Str × Addr)) (C : Addr) (fp : List Addr) : Cxo (T.blk scope) (X.blk s H scope (compEnvC scope cl C X.env) fp) q.blk M where
  hN := o.hN
  hsc := by
    show relS scope X.env.scope = relS scope T.sc
    rw [o.hsc]
  how := rfl
  hK := o.hK
  nd := o.nd
  hu := o.hu
  calm := o.calm
  tk := takesN
  ev := o.ev
  ise := fun i _ _ _ _ _ _ z => by rw [show (T.blk scope).ev = T.ev from rfl, n] at z; cases z
  atf := fun i _ _ _ z => by rw [show (T.blk scope).ev = T.ev from rfl, n] at z; cases z
  fn := o.fn
  con := o.con
  tab := o.tab
  blt := o.blt
def boM (R : Trs) (T : Tv) (andd : Bool) : List Expr → Option E
  | [] => none
  | [e] => R.e T e
  | e :: f :: r => bnd (R.e T e) fun a => bnd (boM R T andd (f :: r)) fun b => some (if andd = true then .and a b else .or a b)
def btM (R : Trs) (T : Tv) (andd : Bool) : List Expr → Option E
  | [] => none
  | [e] => R.t T e
  | e :: f :: r => bnd (R.t T e) fun a => bnd (btM R T andd (f :: r)) fun b => some (if andd = true then .and a b else .or a b)
def optM (f : Expr → Option E) : Option Expr → Option Es
  | none => some .nil
  | some e => bnd (f e) fun m => some (.cons m .nil)
def mOne : Expr → Bool
  | .UnaryOp .USub (.Constant (.int 1) _ _) _ => true
  | _ => false
theorem mOne_ok {e : Expr} (h : mOne e = true) : ∃ k p1 p2, e = .UnaryOp .USub (.Constant (.int 1) k p1) p2 := by
  unfold mOne at h
  split at h
  · exact ⟨_, _, _, rfl⟩
  · cases h
def nmOf : Expr → Option Str
  | .Name x _ => some x
  | _ => none
theorem nmOf_ok {e : Expr} {x : Str} (h : nmOf e = some x) : ∃ p, e = .Name x p := by
  unfold nmOf at h
  split at h
  · cases h; exact ⟨_, rfl⟩
  · cases h
/-- a global name's table -/
def tabOf (T : Tv) (e : Expr) : Option (List (D × D)) := bnd (nmOf e) fun x => gd (glB T.sc x && dbB x) (match T.Γ.lookup x with
  | some (.tab t) => some t
  | _ => none)
theorem tabOf_ok {T : Tv} {e : Expr} {t : List (D × D)} (h : tabOf T e = some t) : ∃ x p, e = .Name x p ∧ T.sc.names.lookup x = some .globalImplicit ∧ (x == ("__debug__" : Str)) = false ∧ T.Γ.lookup x = some (.tab t) := by
  obtain ⟨x, e1, h⟩ := bnd_ok h
  obtain ⟨p, e2⟩ := nmOf_ok e1
  obtain ⟨h1, h2⟩ := gd_ok h
  rw [Bool.and_eq_true] at h1
  refine ⟨x, p, e2, by simpa [glB] using h1.1, (dbB_ok h1.2).1, ?_⟩
  split at h2
  · cases h2; assumption
  · cases h2
/-- a global name that is the built-in one -/
def bltB (T : Tv) (x : Str) : Bool := glB T.sc x && bltNames.contains x && (T.Γ.lookup x).isNone
theorem bltB_ok {T : Tv} {X : Cx} {q : Cq} {M : Md} {x : Str} (o : Cxo T X q M) (h : bltB T x = true) : Gl X x ∧ X.mg x = none := by
  unfold bltB at h
  rw [Bool.and_eq_true, Bool.and_eq_true] at h
  refine ⟨?_, o.blt x h.1.2 (by simpa using h.2)⟩
  show X.env.scope.names.lookup x = some .globalImplicit
  rw [o.hsc]
  simpa [glB] using h.1.1
/-- set(a), alone -/
def setArg (args : List Expr) : Option Expr := match args with
  | [.Call (.Name y _) [a] [] _] => if y == ("set" : Str) then some a else none
  | _ => none
theorem setArg_ok {args : List Expr} {a : Expr} (h : setArg args = some a) : ∃ p pos, args = [.Call (.Name "set" p) [a] [] pos] := by
  unfold setArg at h
  split at h
  · split at h
    · rename_i z
      cases h
      simp at z
      subst z
      exact ⟨_, _, rfl⟩
    · cases h
  · cases h
def setCall (x : Str) (args : List Expr) : Option (Bi × Expr) := match setArg args with
  | some a => if x == ("len" : Str) then some (.lenset, a) else if x == ("sorted" : Str) then some (.sortset, a) else none
  | none => none
/-- the except clause's own name -/
def evOf (T : Tv) (a : Expr) : Option (Nat × Str) := bnd (nmOf a) fun x => bnd (idx T.N x) fun i => gd (decide (T.ev = some i) && dbB x) (some (i, x))
def callM (R : Trs) (T : Tv) (x : Str) (args : List Expr) : Option E :=
  gd (glB T.sc x) (match T.Γ.lookup x with
    | some (.fn f) => gd (T.cm && dbB x) (bnd (esM (R.e T) args) fun ms => some (.call f ms))
    | some _ => none
    | none => if x == ("isinstance" : Str) then (match args with
        | [a, t] => gd (bltB T x && !star a) (match evOf T a, excsOf T t with
          | some _, some cs => some (.exis cs)
          | _, _ => bnd (R.e T a) fun m => bnd (nmOf t) fun y => gd (bltB T y) (bnd (tyOf y) fun ty => some (.isi m [ty])))
        | _ => none)
      else match setCall x args with
      | some (b, a) => gd (T.cm && bltB T x && bltB T "set" && !star a) (bnd (R.e T a) fun m => some (.bi b (.cons m .nil)))
      | none => gd (bltB T x && !args.isEmpty) (bnd (biOf x) fun b => gd (!calmB b || T.cm) <| bnd (esM (R.e T) args) fun ms => some (.bi b ms)))
def subM (R : Trs) (T : Tv) (a s : Expr) : Option E := match s with
  | .Slice lo hi none _ => bnd (R.e T a) fun m => bnd (optM (R.e T) lo) fun l => bnd (optM (R.e T) hi) fun h => some (.sl m l h)
  | .Slice none none (some st) _ => gd (mOne st) (bnd (R.e T a) fun m => some (.rev m))
  | .Slice _ _ _ _ => none
  | s => match tabOf T a with
    | some t => gd (plB s) (bnd (R.e T s) fun i => some (.gget t i))
    | none => gd (plB s) (bnd (R.e T a) fun m => bnd (R.e T s) fun i => some (.ix m i))
def cmpM (R : Trs) (T : Tv) (a : Expr) (ops : List CmpOp) (bs : List Expr) : Option E := match ops, bs with
  | [o], [b] => bnd (cmpOf o) fun c => (match tabOf T b, c with
    | some t, .isin => bnd (R.e T a) fun m => some (.gin m t)
    | _, _ => gd (!setB b) (bnd (R.e T a) fun m => bnd (R.e T b) fun n => some (.cmp c m n)))
  | [o, o'], [b, c] => bnd (cmpOf o) fun k => bnd (cmpOf o') fun k' => gd (!setB c) (bnd (R.e T a) fun m => bnd (R.e T b) fun n => bnd (R.e T c) fun l => some (.chain k k' m n l))
  | _, _ => none
def csM (R : Trs) (T : Tv) : List Expr → Option Es
  | [] => some .nil
  | [e] => bnd (R.t T e) fun m => some (.cons m .nil)
  | _ => none
def lcM (R : Trs) (T : Tv) (elt tg it : Expr) (ifs : List Expr) (scope : Scope) : Option E :=
  bnd (R.g (T.blk scope) tg) fun g => bnd (R.i T it) fun i => bnd (csM R (T.blk scope) ifs) fun c => bnd (R.e (T.blk scope) elt) fun m =>
    gd (T.cm && T.ev.isNone && blkB T.N T.sc scope (ownOf T.N scope.names) && !setB it && g.slots.all fun i => ((ownOf T.N scope.names).map (·.2)).contains i) (some (.lc m g i c ((ownOf T.N scope.names).map (·.2))))
def stepE (R : Trs) (T : Tv) (e : Expr) : Option E := match e with
  | .Name x _ => gd (dbB x) (if visB T.sc x = true then bnd (idx T.N x) fun i => some (.var i) else gd (glB T.sc x) (match T.Γ.lookup x with
    | some (.con d) => some (.con d)
    | _ => none))
  | .Constant c _ _ => (match c with
    | .int i => some (.con (.int i))
    | .bool b => some (.con (.bl b))
    | .none => some (.con .non)
    | .str x => some (.con (.str x))
    | _ => none)
  | .Tuple es _ _ => bnd (esM (R.e T) es) fun ms => some (.tup ms)
  | .List es _ => bnd (esM (R.e T) es) fun ms => some (.lst ms)
  | .Dict ks vs _ => (match ks, vs with
    | [], [] => some (.dic .nil .nil)
    | _, _ => none)
  | .BinOp a op b _ => bnd (binOf op) fun o => bnd (R.e T a) fun m => bnd (R.e T b) fun n => some (.bin o m n)
  | .UnaryOp op a _ => (match op with
    | .USub => bnd (R.e T a) fun m => some (.neg m)
    | .Not => bnd (R.e T a) fun m => some (.not m)
    | _ => none)
  | .Compare a ops bs _ => cmpM R T a ops bs
  | .BoolOp op vs _ => boM R T (decide (op = .And)) vs
  | .IfExp c a b _ => bnd (R.t T c) fun k => bnd (R.e T a) fun m => bnd (R.e T b) fun n => some (.ife k m n)
  | .Subscript a s _ => subM R T a s
  | .Call f args kws pos => (match f, kws with
    | .Name x _, [] => callM R T x args
    | .Attribute a x apos, [] => gd (baseB a && (apos.endLine == pos.line) && decide (args.length < 30)) (bnd (mtOf x) fun m => bnd (R.e T a) fun o => bnd (esM (R.e T) args) fun ms => some (.mt m o ms))
    | _, _ => none)
  | .Attribute a x _ => gd (x == ("at" : Str)) (bnd (evOf T a) fun _ => some .exat)
  | .ListComp elt gens scope _ => (match gens with
    | [⟨tg, it, ifs, as⟩] => gd (decide (as = 0)) (lcM R T elt tg it ifs scope)
    | _ => none)
  | _ => none
def stepT (R : Trs) (T : Tv) (e : Expr) : Option E := match e with
  | .UnaryOp op a _ => (match op with
    | .Not => bnd (R.t T a) fun m => some (.not m)
    | _ => none)
  | .BoolOp op vs _ => btM R T (decide (op = .And)) vs
  | .Compare a ops bs _ => (match ops, bs with
    | [.NotIn], [b] => (match tabOf T b with
      | some t => bnd (R.e T a) fun m => some (.not (.gin m t))
      | none => cmpM R T a ops bs)
    | _, _ => cmpM R T a ops bs)
  | e => gd (truB e) (bnd (R.e T e) fun m => gd (truE m) (some m))
def tgM (R : Trs) (T : Tv) : List Expr → Option Tgs
  | [] => some .nil
  | e :: es => gd (!star e) (bnd (R.g T e) fun m => bnd (tgM R T es) fun ms => some (.cons m ms))
def stepG (R : Trs) (T : Tv) (e : Expr) : Option Tg := match e with
  | .Name x _ => gd (stB T x) (bnd (idx T.N x) fun i => gd (!decide (T.ev = some i)) (some (.nm i)))
  | .Tuple es _ _ => gd T.cm (bnd (tgM R T es) fun ms => some (.tup ms))
  | .Subscript a s _ => gd (plB s) (bnd (R.e T a) fun m => bnd (R.e T s) fun n => some (.ix m n))
  | _ => none
def stepI (R : Trs) (T : Tv) (e : Expr) : Option It := match e with
  | .Call f args kws pos => (match f, args, kws with
    | .Name x p, args, [] => if x == ("range" : Str) then gd (bltB T x) (match args with
        | [a] => bnd (esM (R.e T) [a]) fun ms => some (.rng ms)
        | [a, b] => bnd (esM (R.e T) [a, b]) fun ms => some (.rng ms)
        | [a, b, c] => bnd (esM (R.e T) [a, b, c]) fun ms => some (.rng ms)
        | _ => none)
      else bnd (R.e T (.Call (.Name x p) args [] pos)) fun m => some (.of m)
    | f, args, kws => bnd (R.e T (.Call f args kws pos)) fun m => some (.of m))
  | e => bnd (R.e T e) fun m => some (.of m)
def Trs.none : Trs := ⟨fun _ _ => .none, fun _ _ => .none, fun _ _ => .none, fun _ _ => .none⟩
def trs : Nat → Trs
  | 0 => .none
  | n + 1 => ⟨stepE (trs n), stepT (trs n), stepG (trs n), stepI (trs n)⟩
end Sr

set_option Elab.async false
set_option linter.all false
set_option maxRecDepth 100000
set_option autoImplicit false
set_option maxHeartbeats 2000000
/-! Sr15: the translator is sound. -/
namespace Sr
open PySem PySem.Spec PyProof.Rows L2
section
variable {R : Trs} {T : Tv} {X : Cx} {q : Cq} {M : Md} {a b c e tg it elt : Expr} {es rest : List Expr} {pos p : Pos} {ma mb mc me m : E} {mes : Es}
theorem esM_ok (S : Snd R) (o : Cxo T X q M) : ∀ {es : List Expr} {ms : Es}, esM (R.e T) es = some ms → PA X es (lowA q (wpEs M ms))
  | [], _, h => by cases h; exact xs_nil
  | e :: es, ms, h => by
    obtain ⟨h1, h2⟩ := gd_ok h
    obtain ⟨m, e1, h3⟩ := bnd_ok h2
    obtain ⟨ms', e2, h4⟩ := bnd_ok h3
    cases h4
    exact xs_cons (S.e T X q M e m o e1) (esM_ok S o e2) (ns_cons (by simpa using h1))
theorem boM_ok (S : Snd R) (o : Cxo T X q M) {op : BoolOp} : ∀ {es : List Expr} {m : E}, boM R T (decide (op = .And)) es = some m → PE X (.BoolOp op es pos) (low q (wpE M m))
  | [], _, h => by cases h
  | [e], m, h => pe_one (S.e T X q M e m o h)
  | e :: f :: r, m, h => by
    obtain ⟨ma, e1, h1⟩ := bnd_ok h
    obtain ⟨mb, e2, h2⟩ := bnd_ok h1
    have ih := boM_ok S o e2
    cases op with
    | And =>
      rw [if_pos (by decide)] at h2
      cases h2
      exact x_and o.hK (S.e T X q M e ma o e1) ih
    | Or =>
      rw [if_neg (by decide)] at h2
      cases h2
      exact x_or o.hK (S.e T X q M e ma o e1) ih
theorem btM_ok (S : Snd R) (o : Cxo T X q M) {op : BoolOp} : ∀ {es : List Expr} {m : E}, btM R T (decide (op = .And)) es = some m → PW X (.BoolOp op es pos) (lowT q (wpT M m))
  | [], _, h => by cases h
  | [e], m, h => by
    cases op with
    | And => exact w_and1 (S.t T X q M e m o h)
    | Or => exact w_or1 (S.t T X q M e m o h)
  | e :: f :: r, m, h => by
    obtain ⟨ma, e1, h1⟩ := bnd_ok h
    obtain ⟨mb, e2, h2⟩ := bnd_ok h1
    have ih := btM_ok S o e2
    cases op with
    | And =>
      rw [if_pos (by decide)] at h2
      cases h2
      exact w_and (S.t T X q M e ma o e1) ih
    | Or =>
      rw [if_neg (by decide)] at h2
      cases h2
      exact w_or (S.t T X q M e ma o e1) ih
theorem gl_of (o : Cxo T X q M) {x : Str} (h : T.sc.names.lookup x = some .globalImplicit) : Gl X x := by
  show X.env.scope.names.lookup x = some .globalImplicit
  rw [o.hsc]; exact h
theorem glB_ok (o : Cxo T X q M) {x : Str} (h : glB T.sc x = true) : Gl X x := gl_of o (by simpa [glB] using h)
theorem optM_ok (S : Snd R) (o : Cxo T X q M) : ∀ {e : Option Expr} {ms : Es}, optM (R.e T) e = some ms → PO X e (lowO q M ms)
  | none, _, h => by cases h; exact o_none
  | some e, ms, h => by
    obtain ⟨m, e1, h1⟩ := bnd_ok h
    cases h1
    exact o_some (S.e T X q M e m o e1)
theorem callM_ok (S : Snd R) (o : Cxo T X q M) {x : Str} {args : List Expr} (h : callM R T x args = some m) : PE X (.Call (.Name x p) args [] pos) (low q (wpE M m)) := by
  obtain ⟨h1, h2⟩ := gd_ok h
  have hg := glB_ok o h1
  split at h2
  · rename_i f ef
    obtain ⟨h3, h4⟩ := gd_ok h2
    obtain ⟨ms, e1, h5⟩ := bnd_ok h4
    cases h5
    rw [Bool.and_eq_true] at h3
    obtain ⟨hcm, h3⟩ := h3
    obtain ⟨k, fa, fd, ps, F, hr, hm, hk, hb⟩ := o.fn hcm x f ef
    cases args with
    | nil =>
      cases e1
      exact x_call0 o.hK o.tk F hr hg hm hk hb (dbB_ok h3).1
    | cons e es =>
      have hs : star e = false ∧ noStars es = true := by
        have := (esM_ns e1).1
        unfold noStars at this ⊢
        rw [List.all_cons, Bool.and_eq_true] at this
        exact ⟨by simpa using this.1, this.2⟩
      exact x_call o.hK o.tk F hr hg hm hk hb (dbB_ok h3).1 (esM_ok S o e1) (ns_cons hs.1) (ns_any hs.2)
  · cases h2
  · split at h2
    · rename_i z
      simp at z
      subst z
      split at h2
      · rename_i a t
        obtain ⟨h3, h4⟩ := gd_ok h2
        rw [Bool.and_eq_true] at h3
        split at h4
        · rename_i z cs ez ec
          cases h4
          obtain ⟨y, e2, h6⟩ := bnd_ok ez
          obtain ⟨i, e3, h7⟩ := bnd_ok h6
          obtain ⟨h8, h9⟩ := gd_ok h7
          rw [Bool.and_eq_true] at h8
          obtain ⟨p2, rfl⟩ := nmOf_ok e2
          obtain ⟨g1, g2⟩ := bltB_ok o h3.1
          exact o.ise i y t cs _ _ _ (by simpa using h8.1) (idx_ok e3) g1 g2 ec
        obtain ⟨ma, e1, h5⟩ := bnd_ok h4
        obtain ⟨y, e2, h6⟩ := bnd_ok h5
        obtain ⟨h7, h8⟩ := gd_ok h6
        obtain ⟨ty, e3, h9⟩ := bnd_ok h8
        cases h9
        obtain ⟨p2, rfl⟩ := nmOf_ok e2
        obtain ⟨g1, g2⟩ := bltB_ok o h3.1
        obtain ⟨g3, g4⟩ := bltB_ok o h7
        exact x_isiX e3 o.hK g1 g2 g3 g4 (S.e T X q M a ma o e1) (ns_cons (by simpa using h3.2))
      · cases h2
    · split at h2
      · rename_i b a ea
        obtain ⟨h3, h4⟩ := gd_ok h2
        simp only [Bool.and_eq_true] at h3
        obtain ⟨⟨⟨hcm, b1⟩, b2⟩, b3⟩ := h3
        obtain ⟨ma, e1, h5⟩ := bnd_ok h4
        cases h5
        obtain ⟨g1, g2⟩ := bltB_ok o b1
        obtain ⟨g3, g4⟩ := bltB_ok o b2
        have na := ns_cons (e := a) (es := []) (env := X.env) (by simpa using b3)
        unfold setCall at ea
        split at ea
        · rename_i a' ea'
          obtain ⟨p2, pos2, rfl⟩ := setArg_ok ea'
          split at ea
          · rename_i z
            simp at z
            subst z
            cases ea
            exact x_lenset o.hK (o.calm hcm) o.hu g1 g2 g3 g4 (S.e T X q M a ma o e1) na
          · split at ea
            · rename_i z
              simp at z
              subst z
              cases ea
              exact x_sortset o.hK (o.calm hcm) o.hu g1 g2 g3 g4 (S.e T X q M a ma o e1) na
            · cases ea
        · cases ea
      obtain ⟨h3, h4⟩ := gd_ok h2
      rw [Bool.and_eq_true] at h3
      obtain ⟨bi, e1, h5⟩ := bnd_ok h4
      obtain ⟨hcb, h5⟩ := gd_ok h5
      obtain ⟨ms, e2, h6⟩ := bnd_ok h5
      cases h6
      have hcb : calmB bi = true → X.calm = true := fun z => o.calm (by rw [z] at hcb; simpa using hcb)
      obtain ⟨g1, g2⟩ := bltB_ok o h3.1
      cases args with
      | nil => simp at h3
      | cons e es =>
        have hs : star e = false ∧ noStars es = true := by
          have := (esM_ns e2).1
          unfold noStars at this ⊢
          rw [List.all_cons, Bool.and_eq_true] at this
          exact ⟨by simpa using this.1, this.2⟩
        exact x_bi e1 o.hK hcb g1 g2 (esM_ok S o e2) (ns_cons hs.1) (ns_any hs.2)
theorem subM_ix (S : Snd R) (o : Cxo T X q M) {s : Expr} (h : (match tabOf T a with
    | some t => gd (plB s) (bnd (R.e T s) fun i => some (.gget t i))
    | none => gd (plB s) (bnd (R.e T a) fun m => bnd (R.e T s) fun i => some (.ix m i))) = some m) : PE X (.Subscript a s pos) (low q (wpE M m)) := by
  split at h
  · rename_i t et
    obtain ⟨h1, h2⟩ := gd_ok h
    obtain ⟨i, e1, h3⟩ := bnd_ok h2
    cases h3
    obtain ⟨x, p, rfl, g1, g2, g3⟩ := tabOf_ok et
    obtain ⟨ta, TK, hm⟩ := o.tab x t g3
    exact x_gget o.hK TK (gl_of o g1) hm g2 (S.e T X q M s i o e1) (plB_ok h1)
  · obtain ⟨h1, h2⟩ := gd_ok h
    obtain ⟨ma, e1, h3⟩ := bnd_ok h2
    obtain ⟨mi, e2, h4⟩ := bnd_ok h3
    cases h4
    exact x_ix o.hK o.hu (S.e T X q M a ma o e1) (S.e T X q M s mi o e2) (plB_ok h1)
theorem subM_ok (S : Snd R) (o : Cxo T X q M) {s : Expr} (h : subM R T a s = some m) : PE X (.Subscript a s pos) (low q (wpE M m)) := by
  unfold subM at h
  split at h
  · obtain ⟨ma, e1, h1⟩ := bnd_ok h
    obtain ⟨l, e2, h2⟩ := bnd_ok h1
    obtain ⟨u, e3, h3⟩ := bnd_ok h2
    cases h3
    exact x_sl o.hK (S.e T X q M a ma o e1) (optM_ok S o e2) (optM_ok S o e3)
  · obtain ⟨h1, h2⟩ := gd_ok h
    obtain ⟨ma, e1, h3⟩ := bnd_ok h2
    cases h3
    obtain ⟨k, p1, p2, rfl⟩ := mOne_ok h1
    exact x_rev o.hK (S.e T X q M a ma o e1)
  · cases h
  · exact subM_ix S o h
theorem cmp_ok (S : Snd R) (o : Cxo T X q M) {op : CmpOp} {k : Cm} (hk : cmpOf op = some k) (h : gd (!setB b) (bnd (R.e T a) fun m => bnd (R.e T b) fun n => some (.cmp k m n)) = some m) :
    PE X (.Compare a [op] [b] pos) (low q (wpE M m)) ∧ PT X (.Compare a [op] [b] pos) (lowT q (wpT M m)) := by
  obtain ⟨h1, h2⟩ := gd_ok h
  obtain ⟨ma, e1, h3⟩ := bnd_ok h2
  obtain ⟨mb, e2, h4⟩ := bnd_ok h3
  cases h4
  obtain rfl := cmpOf_ok hk
  have hs := set_nm (o := cmOf k) (b := b) (by simpa using h1)
  exact ⟨x_cmp o.hK o.hu (S.e T X q M a ma o e1) (S.e T X q M b mb o e2) hs, t_cmp o.hK o.hu (S.e T X q M a ma o e1) (S.e T X q M b mb o e2) hs⟩
theorem cmpM_ok (S : Snd R) (o : Cxo T X q M) {ops : List CmpOp} {bs : List Expr} (h : cmpM R T a ops bs = some m) :
    PE X (.Compare a ops bs pos) (low q (wpE M m)) ∧ PT X (.Compare a ops bs pos) (lowT q (wpT M m)) := by
  unfold cmpM at h
  split at h
  · rename_i op b
    obtain ⟨k, hk, h1⟩ := bnd_ok h
    split at h1
    · rename_i t et
      obtain ⟨ma, e1, h2⟩ := bnd_ok h1
      cases h2
      obtain ⟨x, p, rfl, g1, g2, g3⟩ := tabOf_ok et
      obtain ⟨ta, TK, hm⟩ := o.tab x t g3
      obtain rfl := cmpOf_ok hk
      exact ⟨x_gin o.hK TK (gl_of o g1) hm g2 (S.e T X q M a ma o e1), t_gin o.hK TK (gl_of o g1) hm g2 (S.e T X q M a ma o e1)⟩
    · exact cmp_ok S o hk h1
  · rename_i op op' b c
    obtain ⟨k, hk, h1⟩ := bnd_ok h
    obtain ⟨k', hk', h2⟩ := bnd_ok h1
    obtain ⟨h3, h4⟩ := gd_ok h2
    obtain ⟨ma, e1, h5⟩ := bnd_ok h4
    obtain ⟨mb, e2, h6⟩ := bnd_ok h5
    obtain ⟨mc, e3, h7⟩ := bnd_ok h6
    cases h7
    obtain rfl := cmpOf_ok hk
    obtain rfl := cmpOf_ok hk'
    have hs : lastMarks [cmOf k, cmOf k'] [b, c] = false := set_nm (o := cmOf k') (b := c) (by simpa using h3)
    exact ⟨x_chain o.hK o.hu (S.e T X q M a ma o e1) (S.e T X q M b mb o e2) (S.e T X q M c mc o e3) hs, t_chain o.hK o.hu (S.e T X q M a ma o e1) (S.e T X q M b mb o e2) (S.e T X q M c mc o e3) hs⟩
  · cases h
theorem lcM_ok (S : Snd R) (o : Cxo T X q M) {ifs : List Expr} {scope : Scope} (h : lcM R T elt tg it ifs scope = some m) : PE X (.ListComp elt [⟨tg, it, ifs, 0⟩] scope pos) (low q (wpE M m)) ∧
    ∃ (me : E) (g : Tg) (i : It) (c : Es) (own : List (Str × Nat)), m = .lc me g i c (own.map (·.2)) ∧ PI X tg it (lowI q (wpIt M i)) ∧ BlkOk X.N X.env.scope scope own ∧
      (∀ (s : Shared) (H : Hp) (C : Addr) (cl : List (Str × Addr)) (fp : List Addr), PG (X.blk s H scope (compEnvC scope cl C X.env) fp) tg (lowG q.blk g.slots (wpTg M g))) ∧
      (∀ (s : Shared) (H : Hp) (C : Addr) (cl : List (Str × Addr)) (fp : List Addr), PTs (X.blk s H scope (compEnvC scope cl C X.env) fp) ifs (lowT q.blk fun σ h Q _ => wpCs M c σ h Q)) ∧
      (∀ (s : Shared) (H : Hp) (C : Addr) (cl : List (Str × Addr)) (fp : List Addr), PE (X.blk s H scope (compEnvC scope cl C X.env) fp) elt (low q.blk (wpE M me))) ∧
      (∀ x, foldedSetIterable it X.env x = pure x) ∧ (∀ i ∈ g.slots, i ∈ own.map (·.2)) ∧ X.calm = true ∧ T.ev = none := by
  obtain ⟨g, e1, h1⟩ := bnd_ok h
  obtain ⟨i, e2, h2⟩ := bnd_ok h1
  obtain ⟨c, e3, h3⟩ := bnd_ok h2
  obtain ⟨me, e4, h4⟩ := bnd_ok h3
  obtain ⟨h5, h6⟩ := gd_ok h4
  cases h6
  rw [Bool.and_eq_true, Bool.and_eq_true, Bool.and_eq_true, Bool.and_eq_true] at h5
  obtain ⟨⟨⟨⟨hcm, hev⟩, h7⟩, h8⟩, h9⟩ := h5
  have hev : T.ev = none := by simpa using hev
  have hi := S.i T X q M tg it i o e2
  have ok : BlkOk X.N X.env.scope scope (ownOf T.N scope.names) := by
    rw [o.hN, o.hsc]; exact blkB_ok h7
  have hg := fun (s : Shared) (H : Hp) (C : Addr) (cl : List (Str × Addr)) (fp : List Addr) => S.g _ _ q.blk M tg g (o.blk hev s H scope cl C fp) e1
  have he := fun (s : Shared) (H : Hp) (C : Addr) (cl : List (Str × Addr)) (fp : List Addr) => S.e _ _ q.blk M elt me (o.blk hev s H scope cl C fp) e4
  have ht : ∀ (s : Shared) (H : Hp) (C : Addr) (cl : List (Str × Addr)) (fp : List Addr), PTs (X.blk s H scope (compEnvC scope cl C X.env) fp) ifs (lowT q.blk fun σ h Q _ => wpCs M c σ h Q) := fun s H C cl fp => by
    unfold csM at e3
    split at e3
    · cases e3; exact cs_nil
    · obtain ⟨m, e5, h⟩ := bnd_ok e3
      cases h
      exact cs_one (S.t _ _ q.blk M _ m (o.blk hev s H scope cl C fp) e5)
    · cases e3
  have hf : ∀ x, foldedSetIterable it X.env x = pure x := fold_ok (by simpa using h8)
  have ho : ∀ i ∈ g.slots, i ∈ (ownOf T.N scope.names).map (·.2) := fun i hi => by
    have := List.all_eq_true.mp h9 i hi
    simpa using this
  have ne : ∀ i a, q.ev = some (i, a) → i ∉ (ownOf T.N scope.names).map (·.2) := fun i a z => by rw [o.ev i a z] at hev; cases hev
  exact ⟨x_lc (o.calm hcm) o.nd hi ok hg ht he hf ne ho, me, g, i, c, _, rfl, hi, ok, hg, ht, he, hf, ho, o.calm hcm, hev⟩
theorem mtM_ok (S : Snd R) (o : Cxo T X q M) {x : Str} {apos : Pos} {args : List Expr} (h : gd (baseB a && (apos.endLine == pos.line) && decide (args.length < 30)) (bnd (mtOf x) fun m => bnd (R.e T a) fun o => bnd (esM (R.e T) args) fun ms => some (.mt m o ms)) = some m) :
    PE X (.Call (.Attribute a x apos) args [] pos) (low q (wpE M m)) := by
  obtain ⟨h1, h2⟩ := gd_ok h
  obtain ⟨mt, e0, h3⟩ := bnd_ok h2
  obtain ⟨ma, e1, h4⟩ := bnd_ok h3
  obtain ⟨ms, e2, h5⟩ := bnd_ok h4
  cases h5
  rw [Bool.and_eq_true, Bool.and_eq_true] at h1
  obtain ⟨⟨g1, g2⟩, g3⟩ := h1
  cases args with
  | nil =>
    cases e2
    exact x_meth0 e0 o.hK (S.e T X q M a ma o e1) (baseB_ok g1) g2
  | cons e es => exact x_meth e0 o.hK (S.e T X q M a ma o e1) (esM_ok S o e2) (baseB_ok g1) g2 (esM_ns e2).1 (by simpa using g3)
theorem stepE_ok (S : Snd R) (o : Cxo T X q M) (h : stepE R T e = some m) : PE X e (low q (wpE M m)) := by
  unfold stepE at h
  split at h
  · rename_i x p
    obtain ⟨h1, h2⟩ := gd_ok h
    obtain ⟨d1, d2⟩ := dbB_ok h1
    split at h2
    · rename_i hv
      obtain ⟨i, e1, h3⟩ := bnd_ok h2
      cases h3
      refine x_var (pe_var (by rw [o.hN]; exact idx_ok e1) ?_ d1 d2)
      rw [o.hsc]; exact visB_ok hv
    · obtain ⟨h3, h4⟩ := gd_ok h2
      split at h4
      · rename_i d ed
        cases h4
        obtain ⟨v, u, hm, r, k⟩ := o.con x d ed
        exact x_con k (pe_glob (glB_ok o h3) hm r d1)
      · cases h4
  · split at h
    · cases h; exact x_con (v := .int _) (fun _ => rfl) pe_int
    · cases h; exact x_con (v := .bl _) (fun _ => rfl) pe_bl
    · cases h; exact x_con (v := .non) (fun _ => rfl) pe_non
    · cases h; exact x_con (v := .str _) (fun _ => rfl) pe_str
    · cases h
  · obtain ⟨ms, e1, h1⟩ := bnd_ok h
    cases h1
    exact x_tup (esM_ok S o e1)
  · obtain ⟨ms, e1, h1⟩ := bnd_ok h
    cases h1
    exact x_lst (esM_ok S o e1)
  · split at h
    · cases h; exact x_dic0
    · cases h
  · obtain ⟨k, e0, h0⟩ := bnd_ok h
    obtain ⟨ma, e1, h1⟩ := bnd_ok h0
    obtain ⟨mb, e2, h2⟩ := bnd_ok h1
    cases h2
    obtain rfl := binOf_ok e0
    exact x_bin o.hK (S.e T X q M _ ma o e1) (S.e T X q M _ mb o e2)
  · split at h
    · obtain ⟨ma, e1, h1⟩ := bnd_ok h
      cases h1
      exact x_neg (S.e T X q M _ ma o e1)
    · obtain ⟨ma, e1, h1⟩ := bnd_ok h
      cases h1
      exact x_not o.hK (S.e T X q M _ ma o e1)
    · cases h
  · exact (cmpM_ok S o h).1
  · exact boM_ok S o h
  · obtain ⟨k, e0, h0⟩ := bnd_ok h
    obtain ⟨ma, e1, h1⟩ := bnd_ok h0
    obtain ⟨mb, e2, h2⟩ := bnd_ok h1
    cases h2
    exact x_ife (S.t T X q M _ k o e0) (S.e T X q M _ ma o e1) (S.e T X q M _ mb o e2)
  · exact subM_ok S o h
  · split at h
    · exact callM_ok S o h
    · exact mtM_ok S o h
    · cases h
  · obtain ⟨h1, h2⟩ := gd_ok h
    simp at h1
    subst h1
    obtain ⟨z, ez, h3⟩ := bnd_ok h2
    cases h3
    obtain ⟨y, e2, h6⟩ := bnd_ok ez
    obtain ⟨i, e3, h7⟩ := bnd_ok h6
    obtain ⟨h8, h9⟩ := gd_ok h7
    rw [Bool.and_eq_true] at h8
    obtain ⟨p2, rfl⟩ := nmOf_ok e2
    exact o.atf i y _ _ (by simpa using h8.1) (idx_ok e3)
  · split at h
    · rename_i tg it ifs as
      obtain ⟨h1, h2⟩ := gd_ok h
      have : as = 0 := by simpa using h1
      subst this
      exact (lcM_ok S o h2).1
    · cases h
  · cases h
theorem truth_ok (o : Cxo T X q M) (he : PE X e (low q (wpE M m))) (h1 : truB e = true) (h2 : truE m = true) : PT X e (lowT q (wpT M m)) :=
  (t_truth o.hK he (truB_ok h1)).imp fun σ H Q ⟨c, h, Qc, Xc, rs, rh, k, qq, qx⟩ => ⟨c, h, Qc, Xc, rs, rh, truE_ok h2 k, qq, qx⟩
theorem stepT_ok (S : Snd R) (o : Cxo T X q M) (h : stepT R T e = some m) : PT X e (lowT q (wpT M m)) := by
  unfold stepT at h
  split at h
  · split at h
    · obtain ⟨ma, e1, h1⟩ := bnd_ok h
      cases h1
      exact t_not (S.t T X q M _ ma o e1)
    · cases h
  · exact (btM_ok S o h).pt
  · split at h
    · rename_i b
      split at h
      · rename_i t et
        obtain ⟨ma, e1, h2⟩ := bnd_ok h
        cases h2
        obtain ⟨x, p, rfl, g1, g2, g3⟩ := tabOf_ok et
        obtain ⟨ta, TK, hm⟩ := o.tab x t g3
        exact t_notgin o.hK TK (gl_of o g1) hm g2 (S.e T X q M _ ma o e1)
      · exact (cmpM_ok S o h).2
    · exact (cmpM_ok S o h).2
  · obtain ⟨h1, h2⟩ := gd_ok h
    obtain ⟨ma, e1, h3⟩ := bnd_ok h2
    obtain ⟨h4, h5⟩ := gd_ok h3
    cases h5
    exact truth_ok o (S.e T X q M _ _ o e1) h1 h4
theorem stB_ok (o : Cxo T X q M) {x : Str} (h : stB T x = true) : L2.Loc X.env.scope x ∧ (X.fn x = true ∨ X.env.scope.names.lookup x = some .local) := by
  unfold stB at h
  simp only [Bool.or_eq_true, Bool.and_eq_true, decide_eq_true_eq] at h
  unfold L2.Loc
  rw [o.hsc, o.how]
  rcases h with h | ⟨h1, h2⟩
  · exact ⟨.inl h, .inr h⟩
  · exact ⟨.inr h1, .inl h2⟩
theorem tgM_ok (S : Snd R) (o : Cxo T X q M) : ∀ {es : List Expr} {ms : Tgs}, tgM R T es = some ms → PGs X es (lowGs q ms.slots (wpTgs M ms)) ∧ (assignEach es X.env).length = ms.len ∧ (assignEach es X.env).findIdx? (·.1) = none
  | [], _, h => by cases h; exact ⟨gs_nil, rfl, rfl⟩
  | e :: es, ms, h => by
    obtain ⟨h1, h2⟩ := gd_ok h
    obtain ⟨m, e1, h3⟩ := bnd_ok h2
    obtain ⟨ms', e2, h4⟩ := bnd_ok h3
    cases h4
    obtain ⟨g1, g2, g3⟩ := tgM_ok S o e2
    have hs := ns_asg (e := e) (es := es) (env := X.env) (by simpa using h1)
    refine ⟨gs_cons (S.g T X q M e m o e1) g1 (by rw [hs]; rfl), ?_, ?_⟩
    · rw [hs, List.length_cons, g2]; rfl
    · rw [hs, List.findIdx?_cons, if_neg (by simp), g3]; rfl
theorem stepG_ok (S : Snd R) (o : Cxo T X q M) {g : Tg} (h : stepG R T e = some g) : PG X e (lowG q g.slots (wpTg M g)) := by
  unfold stepG at h
  split at h
  · rename_i x p
    obtain ⟨h1, h2⟩ := gd_ok h
    obtain ⟨i, e1, h3⟩ := bnd_ok h2
    obtain ⟨l1, l2⟩ := stB_ok o h1
    obtain ⟨h4, h5⟩ := gd_ok h3
    cases h5
    exact g_nm (pg_name o.nd (by rw [o.hN]; exact idx_ok e1) l1 l2) fun a z => by
      have := o.ev _ _ z
      simp [this] at h4
  · obtain ⟨hcm, h⟩ := gd_ok h
    obtain ⟨ms, e1, h1⟩ := bnd_ok h
    cases h1
    obtain ⟨g1, g2, g3⟩ := tgM_ok S o e1
    exact g_tup o.hK (o.calm hcm) g1 g2 g3
  · obtain ⟨h1, h2⟩ := gd_ok h
    obtain ⟨ma, e1, h3⟩ := bnd_ok h2
    obtain ⟨mi, e2, h4⟩ := bnd_ok h3
    cases h4
    refine g_ix o.hu o.hK (S.e T X q M _ ma o e1) (S.e T X q M _ mi o e2) fun v => ?_
    rename_i s _
    cases s <;> first | rfl | cases h1
  · cases h
theorem iof_ok (S : Snd R) (o : Cxo T X q M) {i : It} (h : (bnd (R.e T e) fun m => some (It.of m)) = some i) : PI X tg e (lowI q (wpIt M i)) := by
  obtain ⟨m, e1, h1⟩ := bnd_ok h
  cases h1
  exact i_of o.hK (S.e T X q M e m o e1)
theorem stepI_ok (S : Snd R) (o : Cxo T X q M) {i : It} (h : stepI R T e = some i) : PI X tg e (lowI q (wpIt M i)) := by
  unfold stepI at h
  split at h
  · split at h
    · split at h
      · rename_i z
        simp at z
        subst z
        obtain ⟨h1, h2⟩ := gd_ok h
        obtain ⟨g1, g2⟩ := bltB_ok o h1
        split at h2
        · obtain ⟨ms, e1, h3⟩ := bnd_ok h2
          cases h3
          obtain ⟨n1, n2⟩ := esM_ns e1
          unfold noStars at n1
          simp only [List.all_cons, List.all_nil, Bool.and_true, Bool.not_eq_true'] at n1
          exact i_rng1 g1 g2 (esM_ok S o e1) n2 (by rw [ns_cons n1]; rfl)
        · obtain ⟨ms, e1, h3⟩ := bnd_ok h2
          cases h3
          obtain ⟨n1, n2⟩ := esM_ns e1
          unfold noStars at n1
          simp only [List.all_cons, List.all_nil, Bool.and_true, Bool.not_eq_true', Bool.and_eq_true] at n1
          exact i_rng2 g1 g2 (esM_ok S o e1) n2 (by rw [ns_cons n1.1, ns_cons n1.2]; rfl) (by rw [ns_cons n1.2]; rfl)
        · obtain ⟨ms, e1, h3⟩ := bnd_ok h2
          cases h3
          obtain ⟨n1, n2⟩ := esM_ns e1
          have n1' := n1
          unfold noStars at n1
          simp only [List.all_cons, List.all_nil, Bool.and_true, Bool.not_eq_true', Bool.and_eq_true] at n1
          exact i_rng3 g1 g2 (esM_ok S o e1) n2 (ns_cons n1.1) (ns_any (by unfold noStars; simp [n1.2.1, n1.2.2]))
        · cases h2
      · exact iof_ok S o h
    · exact iof_ok S o h
  · exact iof_ok S o h
end
theorem trs_ok : ∀ n : Nat, Snd (trs n)
  | 0 => { e := fun _ _ _ _ _ _ _ h => by cases h
           t := fun _ _ _ _ _ _ _ h => by cases h
           g := fun _ _ _ _ _ _ _ h => by cases h
           i := fun _ _ _ _ _ _ _ _ h => by cases h }
  | n + 1 => ⟨fun T X q M e m o h => stepE_ok (trs_ok n) o h, fun T X q M e m o h => stepT_ok (trs_ok n) o h, fun T X q M e m o h => stepG_ok (trs_ok n) o h, fun T X q M tg e m o h => stepI_ok (trs_ok n) o h⟩
end Sr

set_option Elab.async false
set_option linter.all false
set_option maxRecDepth 100000
set_option autoImplicit false
set_option maxHeartbeats 2000000
/-! Sr16: the translator of statements. -/
namespace Sr
open PySem PySem.Spec PyProof.Rows L2
/-- what a body's statements need beyond -/
structure Cxs (T : Tv) (X : Cx) (q : Cq) (M : Md) : Prop extends Cxo T X q M where
  pw : T.cm = true → PassesOwn (model X.prog X.w) X.A X.env X.xe
  bk : X.env.blockKind = .function
  exr : T.cm = true → ∀ x c, T.Γ.lookup x = some (.exc c true) → ∃ C bmB B newId initId, q.cA c = some C ∧ ExcBaseFacts B newId initId bmB ∧ PySem.W.excIn X.K C bmB newId = true ∧ X.mg x = some (.ref C) ∧ PySem.W.keepIn X.K (.ref C) = true ∧ Raises X (.ref C)

/-! ### deciders -/
def compB : Expr → Bool
  | .ListComp _ _ _ _ => true | .SetComp _ _ _ _ => true | .DictComp _ _ _ _ _ => true | _ => false
theorem compB_ok {e : Expr} {t : Option Expr} {l : Nat} {env : Env} (h : compB e = false) : swapsWith e t l env = pure false := by cases e <;> first | rfl | cases h
def nmB : Expr → Bool
  | .Name _ _ => true | _ => false
theorem nmB_ok {e t : Expr} {l : Nat} {env : Env} (h : nmB t = false) : swapsWith e (some t) l env = pure false := by
  cases e <;> first | rfl | (cases t <;> first | rfl | cases h)
def tupB : Expr → Bool
  | .Tuple _ _ _ => true | _ => false
def lstB : Expr → Bool
  | .List _ _ => true | _ => false
/-- no stores are swapped -/
def nosw (t e : Expr) : Bool := (!tupB t && !lstB t) || (!tupB e && !lstB t) || (match t, e with
  | .Tuple ts _ _, .Tuple vs _ _ => decide (3 < ts.length)
  | _, _ => false)
theorem nosw_ok {t e : Expr} {env : Env} (h : nosw t e = true) : swappedStores [t] e env = pure none := by
  unfold nosw at h
  simp only [Bool.or_eq_true, Bool.and_eq_true, Bool.not_eq_true'] at h
  rcases h with (⟨h1, h2⟩ | ⟨h1, h2⟩) | h
  · cases t <;> first | rfl | exact nomatch (show true = false from h1) | exact nomatch (show true = false from h2)
  · cases t <;> first | rfl | exact nomatch (show true = false from h2) | (cases e <;> first | rfl | exact nomatch (show true = false from h1))
  · split at h
    · rename_i ts _ _ vs _ _
      simp at h
      unfold swappedStores
      dsimp only
      have : (!(ts.length == 2 || ts.length == 3) || vs.length != ts.length || env.blockKind != ScopeKind.function) = true := by
        have h2 : (ts.length == 2) = false := by simp; omega
        have h3 : (ts.length == 3) = false := by simp; omega
        rw [h2, h3]; rfl
      rw [if_pos this]
    · cases h
/-- a text that stands alone -/
def docB : Expr → Bool
  | .Constant (.str _) _ _ => true | _ => false
theorem docB_ok {e : Expr} (h : docB e = true) : ∃ x k p, e = .Constant (.str x) k p := by
  unfold docB at h
  split at h
  · exact ⟨_, _, _, rfl⟩
  · cases h
/-! ### raise -/
section
variable {X : Cx} {q : Cq} {M : Md} {pos : Pos}
theorem s_raise {x m : Str} {j : Nat} {p p2 pos' : Pos} {c : Nat} {C : Addr} {bmB : List Value} {B newId initId : String} (hc : X.calm = true) (tk : Takes X q.W) (cA : q.cA c = some C) (F : ExcBaseFacts B newId initId bmB) (qe : PySem.W.excIn X.K C bmB newId = true) (gC : X.mg x = some (.ref C)) (kC : PySem.W.keepIn X.K (.ref C) = true)
    (r : Raises X (.ref C)) (hg : Gl X x) (hdb : (x == ("__debug__" : Str)) = false) : PS X (.Raise (some (.Call (.Name x p) [.Constant (.str m) j p2] [] pos')) none pos) (lowS q (wpS M (.raise c .nil))) :=
  (ps_raise hc tk (pmk_own F qe gC kC r hg hdb)).imp fun D σ H w => by
    obtain ⟨cs, h, Kc, rs, rh, k, nx, rt, ex⟩ := w
    exact ex ⟨c, none⟩ cs h (.ref C) none σ H k ⟨C, cA, rfl, rfl⟩ rs rh (.refl _)
end
/-! ### the translator -/
def ssM (f : Stmt → Option S) : List Stmt → Option Ss
  | [] => some .nil
  | s :: ss => bnd (f s) fun m => bnd (ssM f ss) fun ms => some (.cons m ms)
/-- the value is folded, or made of constants -/
def fcB (vs : List Expr) : Bool := vs.all (foldedForSure 8) || vs.all (constantsAlone 8)
/-- two plain names, two values -/
def parM (R : Trs) (T : Tv) (ts vs : List Expr) : Option S := match ts, vs with
  | [.Name x px, .Name y py], [a, b] => gd (T.cm && decide (T.sc.names.lookup x = some .local) && decide (T.sc.names.lookup y = some .local) && (px.line == py.line) && !fcB [a, b] && !star a && !star b)
      (bnd (idx T.N x) fun i => bnd (idx T.N y) fun j => gd (!decide (i = j) && !decide (T.ev = some i) && !decide (T.ev = some j)) (bnd (R.e T a) fun m => bnd (R.e T b) fun n => some (.par i j m n)))
  | _, _ => none
def lcSw (T : Tv) (x : Str) (px : Pos) (scope : Scope) (pos : Pos) : Bool := decide (T.sc.names.lookup x = some .local) && (px.line == pos.line) && !(scope.names.any fun (n, k) => n == x && (k == .local || k == .cell))
def asgM (R : Trs) (T : Tv) (t e : Expr) : Option S := match t, e with
  | .Tuple ts _ _, .Tuple vs _ _ => if ts.length = 2 then parM R T ts vs else gd (nosw t e && !star t) (bnd (R.g T t) fun g => bnd (R.e T e) fun m => some (.asg g m))
  | .Name x px, .ListComp elt [⟨tg, it, ifs, as⟩] scope pos => if lcSw T x px scope pos = true then gd (decide (as = 0)) (bnd (idx T.N x) fun i => bnd (lcM R T elt tg it ifs scope) fun m => some (.asg (.nm i) m))
      else bnd (R.g T t) fun g => bnd (R.e T e) fun m => some (.asg g m)
  | t, e => gd ((!nmB t || !compB e) && nosw t e && !star t) (bnd (R.g T t) fun g => bnd (R.e T e) fun m => some (.asg g m))
def stepS (R : Trs) (rec : Tv → List Stmt → Option Ss) (T : Tv) (st : Stmt) : Option S := match st with
  | .Expr e _ => if docB e = true then some (.ex (.con .non)) else gd (!compB e) (bnd (R.e T e) fun m => some (.ex m))
  | .Pass _ => some (.ex (.con .non))
  | .Assign ts e _ => (match ts with
    | [t] => asgM R T t e
    | _ => none)
  | .AugAssign t op e _ => (match t with
    | .Name x _ => gd (stB T x) (bnd (idx T.N x) fun i => gd (!decide (T.ev = some i)) (bnd (binOf op) fun o => bnd (R.e T e) fun m => some (.aug i o m)))
    | _ => none)
  | .If c a b _ => bnd (R.t T c) fun k => bnd (rec T a) fun m => bnd (rec T b) fun n => some (.ifs k m n)
  | .While c b els _ => (match els with
    | [] => gd T.cm (bnd (R.t T c) fun k => bnd (rec T b) fun m => some (.whil k m))
    | _ => none)
  | .For t it b els _ => (match els with
    | [] => gd (T.cm && !setB it) (bnd (R.g T t) fun g => bnd (R.i T it) fun i => bnd (rec T b) fun m => some (.forr g i m))
    | _ => none)
  | .Return v _ => (match v with
    | some e => bnd (R.e T e) fun m => some (.ret m)
    | none => some .retN)
  | .Raise v cause _ => (match v, cause with
    | some (.Call (.Name x _) [.Constant (.str _) _ _] [] _), none => gd (T.cm && glB T.sc x && dbB x) (match T.Γ.lookup x with
      | some (.exc c true) => some (.raise c .nil)
      | _ => none)
    | _, _ => none)
  | _ => none
def trss (n : Nat) : Nat → Tv → List Stmt → Option Ss
  | 0 => fun _ _ => none
  | k + 1 => fun T ss => ssM (stepS (trs n) (trss n k) T) ss

/-! ### it is sound -/
section
variable {R : Trs} {rec : Tv → List Stmt → Option Ss} {T : Tv} {X : Cx} {q : Cq} {M : Md} {a b c e tg it elt t : Expr} {es rest : List Expr} {pos p : Pos} {ma mb mc me m : E} {mes : Es}
theorem asg_ok (S : Snd R) (o : Cxs T X q M) {ms : Sr.S} (hs : swapsWithSole [t] e pos.line X.env = pure false) (hw : swappedStores [t] e X.env = pure none) (h1 : star t = false) (h : (bnd (R.g T t) fun g => bnd (R.e T e) fun m => some (Sr.S.asg g m)) = some ms) :
    PS X (.Assign [t] e pos) (lowS q (wpS M ms)) := by
  obtain ⟨g, e1, h2⟩ := bnd_ok h
  obtain ⟨m, e2, h3⟩ := bnd_ok h2
  cases h3
  exact s_asg (S.e T X q M e m o.toCxo e2) (S.g T X q M t g o.toCxo e1) hs hw (by rw [ns_asg h1]; rfl)
theorem par_sw {x y : Str} {px py pt pt2 : Pos} {kt k2 : Nat} (hb : X.env.blockKind = .function) (hx : X.env.scope.names.lookup x = some .local) (hy : X.env.scope.names.lookup y = some .local) (hl : (px.line == py.line) = true) (hne : x ≠ y) (hf : fcB [a, b] = false) (ha : star a = false) (hb' : star b = false) :
    swappedStores [.Tuple [.Name x px, .Name y py] kt pt] (.Tuple [a, b] k2 pt2) X.env = pure (some [x, y]) := by
  unfold fcB at hf
  rw [Bool.or_eq_false_iff] at hf
  have h1 : ∀ z : Expr, (match z with | .Starred _ _ => true | _ => false) = star z := fun z => by cases z <;> rfl
  unfold swappedStores
  dsimp only
  have kx : X.env.kindOf x = some .local := hx
  have ky : X.env.kindOf y = some .local := hy
  have hl' : py.line = px.line := by simpa using (eq_of_beq hl).symm
  have e1 : ([a, b].any fun z => match z with | .Starred _ _ => true | _ => false) = false := by
    simp only [List.any_cons, List.any_nil, h1, ha, hb']; rfl
  have e2 : ((y == x) = false) := by simpa using fun z => hne z.symm
  simp only [List.length_cons, List.length_nil, hb, e1, kx, ky, hf.1, hf.2, List.head?_cons, Option.map_some, Option.getD_some, Expr.pos, hl', List.filterMap_cons, List.filterMap_nil]
  simp [List.eraseDups_cons, e2, hne.symm]
  intro h
  rcases h with h | h
  · cases a <;> first | exact nomatch (show false = true from h) | exact nomatch (show true = false from ha)
  · cases b <;> first | exact nomatch (show false = true from h) | exact nomatch (show true = false from hb')
theorem parM_ok (S : Snd R) (o : Cxs T X q M) {ts vs : List Expr} {kt k2 : Nat} {pt pt2 : Pos} {ms : Sr.S} (h : parM R T ts vs = some ms) : PS X (.Assign [.Tuple ts kt pt] (.Tuple vs k2 pt2) pos) (lowS q (wpS M ms)) := by
  unfold parM at h
  split at h
  · rename_i x px y py a b
    obtain ⟨h1, h2⟩ := gd_ok h
    obtain ⟨i, e1, h3⟩ := bnd_ok h2
    obtain ⟨j, e2, h4⟩ := bnd_ok h3
    obtain ⟨h5, h6⟩ := gd_ok h4
    obtain ⟨ma, e3, h7⟩ := bnd_ok h6
    obtain ⟨mb, e4, h8⟩ := bnd_ok h7
    cases h8
    simp only [Bool.and_eq_true, decide_eq_true_eq, Bool.not_eq_true', decide_eq_false_iff_not] at h1 h5
    obtain ⟨⟨⟨⟨⟨⟨hcm, hx⟩, hy⟩, hl⟩, hf⟩, ha⟩, hb⟩ := h1
    obtain ⟨⟨hij, hi⟩, hj⟩ := h5
    have hx' : X.env.scope.names.lookup x = some .local := by rw [o.hsc]; exact hx
    have hy' : X.env.scope.names.lookup y = some .local := by rw [o.hsc]; exact hy
    have hne : x ≠ y := fun z => hij (by subst z; rw [e1] at e2; cases e2; rfl)
    exact s_par (o.calm hcm) o.nd (by rw [o.hN]; exact idx_ok e1) (by rw [o.hN]; exact idx_ok e2) hij hx' hy' (xs_cons (S.e T X q M a ma o.toCxo e3) (xs_cons (S.e T X q M b mb o.toCxo e4) xs_nil (ns_cons hb)) (ns_cons ha))
      (par_sw o.bk hx' hy' hl hne hf ha hb) rfl (fun a z => hi (o.ev _ _ z)) (fun a z => hj (o.ev _ _ z))
  · cases h
theorem asgM_ok (S : Snd R) (o : Cxs T X q M) {ms : Sr.S} (h : asgM R T t e = some ms) : PS X (.Assign [t] e pos) (lowS q (wpS M ms)) := by
  unfold asgM at h
  split at h
  · split at h
    · exact parM_ok S o h
    · obtain ⟨h1, h2⟩ := gd_ok h
      rw [Bool.and_eq_true] at h1
      exact asg_ok S o rfl (nosw_ok h1.1) rfl h2
  · rename_i x px elt tg it ifs as scope lpos
    split at h
    · rename_i hsw
      obtain ⟨h1, h2⟩ := gd_ok h
      obtain ⟨i, e1, h3⟩ := bnd_ok h2
      obtain ⟨m, e2, h4⟩ := bnd_ok h3
      cases h4
      have : as = 0 := by simpa using h1
      subst this
      obtain ⟨_, me, g, ii, c, own, rfl, hi, ok, hg, ht, he, hf, ho, hc, hev⟩ := lcM_ok (pos := lpos) S o.toCxo e2
      have hs : swapsWith (.ListComp elt [⟨tg, it, ifs, 0⟩] scope lpos) (some (.Name x px)) pos.line X.env = pure true := by
        unfold lcSw at hsw
        simp only [Bool.and_eq_true, decide_eq_true_eq] at hsw
        obtain ⟨⟨h5, h6⟩, h7⟩ := hsw
        have kx : X.env.kindOf x = some .local := by
          show X.env.scope.names.lookup x = _
          rw [o.hsc]; exact h5
        unfold swapsWith
        dsimp only
        rw [o.bk, kx]
        have h6' : (px.line == (Expr.ListComp elt [⟨tg, it, ifs, 0⟩] scope lpos).pos.line) = true := h6
        rw [h6', h7]; rfl
      exact s_setLc hc o.nd (by rw [o.hN]; exact idx_ok e1) (by
        unfold lcSw at hsw
        simp only [Bool.and_eq_true, decide_eq_true_eq] at hsw
        rw [o.hsc]; exact hsw.1.1) hs hi ok hg ht he hf (fun i a z => by rw [o.ev i a z] at hev; cases hev) ho fun a z => by rw [o.ev _ _ z] at hev; cases hev
    · rename_i hsw
      refine asg_ok S o ?_ rfl rfl h
      show swapsWith (.ListComp elt [⟨tg, it, ifs, as⟩] scope lpos) (some (.Name x px)) pos.line X.env = pure false
      unfold swapsWith
      dsimp only
      have : (X.env.blockKind == ScopeKind.function && X.env.kindOf x == some .local && px.line == (Expr.ListComp elt [⟨tg, it, ifs, as⟩] scope lpos).pos.line && !(scope.names.any fun (n, k) => n == x && (k == .local || k == .cell))) = false := by
        rw [o.bk]
        unfold lcSw at hsw
        rw [← o.hsc] at hsw
        have kx : X.env.kindOf x = X.env.scope.names.lookup x := rfl
        rw [kx]
        have e2 : (X.env.scope.names.lookup x == some NameKind.local) = decide (X.env.scope.names.lookup x = some NameKind.local) := by
          cases h : X.env.scope.names.lookup x with
          | none => rfl
          | some k => cases k <;> rfl
        rw [e2]
        exact Bool.eq_false_iff.mpr hsw
      rw [this]
  · obtain ⟨h1, h2⟩ := gd_ok h
    simp only [Bool.and_eq_true, Bool.or_eq_true, Bool.not_eq_true'] at h1
    obtain ⟨⟨h3, h4⟩, h5⟩ := h1
    refine asg_ok S o ?_ (nosw_ok h4) h5 h2
    show swapsWith _ (some _) _ _ = _
    rcases h3 with h3 | h3
    · exact nmB_ok h3
    · exact compB_ok h3
theorem stepS_ok (S : Snd R) (hr : ∀ ss ms, rec T ss = some ms → PSs X ss (lowS q (wpSs M ms))) (o : Cxs T X q M) {st : Stmt} {ms : Sr.S} (h : stepS R rec T st = some ms) : PS X st (lowS q (wpS M ms)) := by
  unfold stepS at h
  split at h
  · split at h
    · rename_i hd
      cases h
      obtain ⟨x, k, p, rfl⟩ := docB_ok hd
      exact s_doc
    · obtain ⟨h1, h2⟩ := gd_ok h
      obtain ⟨m, e1, h3⟩ := bnd_ok h2
      cases h3
      exact s_ex (S.e T X q M _ m o.toCxo e1) (compB_ok (by simpa using h1))
  · cases h; exact s_pass
  · split at h
    · exact asgM_ok S o h
    · cases h
  · split at h
    · obtain ⟨h1, h2⟩ := gd_ok h
      obtain ⟨i, e1, h3⟩ := bnd_ok h2
      obtain ⟨h4, h5⟩ := gd_ok h3
      obtain ⟨k, e2, h6⟩ := bnd_ok h5
      obtain ⟨m, e3, h7⟩ := bnd_ok h6
      cases h7
      obtain rfl := binOf_ok e2
      obtain ⟨l1, l2⟩ := stB_ok o.toCxo h1
      exact s_aug o.hK o.nd (by rw [o.hN]; exact idx_ok e1) l1 l2 (S.e T X q M _ m o.toCxo e3) fun a z => by
        have := o.ev _ _ z
        simp [this] at h4
    · cases h
  · obtain ⟨k, e1, h1⟩ := bnd_ok h
    obtain ⟨m, e2, h2⟩ := bnd_ok h1
    obtain ⟨n, e3, h3⟩ := bnd_ok h2
    cases h3
    exact s_if (S.t T X q M _ k o.toCxo e1) (hr _ _ e2) (hr _ _ e3)
  · split at h
    · obtain ⟨hcm, h⟩ := gd_ok h
      obtain ⟨k, e1, h1⟩ := bnd_ok h
      obtain ⟨m, e2, h2⟩ := bnd_ok h1
      cases h2
      exact s_while (o.pw hcm) (S.t T X q M _ k o.toCxo e1) (hr _ _ e2)
    · cases h
  · split at h
    · obtain ⟨h1, h2⟩ := gd_ok h
      rw [Bool.and_eq_true] at h1
      obtain ⟨g, e1, h3⟩ := bnd_ok h2
      obtain ⟨i, e2, h4⟩ := bnd_ok h3
      obtain ⟨m, e3, h5⟩ := bnd_ok h4
      cases h5
      exact s_for (o.pw h1.1) (o.calm h1.1) (S.i T X q M _ _ i o.toCxo e2) (S.g T X q M _ g o.toCxo e1) (hr _ _ e3) (fold_ok (by simpa using h1.2))
    · cases h
  · split at h
    · obtain ⟨m, e1, h1⟩ := bnd_ok h
      cases h1
      exact s_ret (S.e T X q M _ m o.toCxo e1)
    · cases h; exact s_retN
  · split at h
    · obtain ⟨h1, h2⟩ := gd_ok h
      rw [Bool.and_eq_true, Bool.and_eq_true] at h1
      split at h2
      · rename_i c ec
        cases h2
        obtain ⟨C, bmB, B, newId, initId, cA, F, qe, gC, kC, r⟩ := o.exr h1.1.1 _ c ec
        exact s_raise (o.calm h1.1.1) o.tk cA F qe gC kC r (glB_ok o.toCxo h1.1.2) (dbB_ok h1.2).1
      · cases h2
    · cases h
  · cases h
theorem ssM_ok {f : Stmt → Option Sr.S} (hr : ∀ st ms, f st = some ms → PS X st (lowS q (wpS M ms))) : ∀ {ss : List Stmt} {ms : Ss}, ssM f ss = some ms → PSs X ss (lowS q (wpSs M ms))
  | [], _, h => by cases h; exact ss_nil
  | s :: ss, ms, h => by
    obtain ⟨m, e1, h1⟩ := bnd_ok h
    obtain ⟨ms', e2, h2⟩ := bnd_ok h1
    cases h2
    exact ss_cons (hr s m e1) (ssM_ok hr e2)
theorem trss_ok {n : Nat} : ∀ {k : Nat} {ss : List Stmt} {ms : Ss}, Cxs T X q M → trss n k T ss = some ms → PSs X ss (lowS q (wpSs M ms))
  | 0, _, _, _, h => by cases h
  | k + 1, ss, ms, o, h => ssM_ok (fun st m h => stepS_ok (trs_ok n) (fun ss ms h => trss_ok o h) o h) h
end
end Sr

set_option Elab.async false
set_option linter.all false
set_option maxRecDepth 100000
set_option autoImplicit false
set_option maxHeartbeats 2000000
/-! Sr17: a program's defs, all at once. -/
namespace Sr
open PySem PySem.Spec PyProof.Rows L2
/-- a def: its number, where it stands, its names, its parameters, what it is in the small syntax -/
structure Fd where
  id : Nat
  d : He.DefD
  N : List Str
  ps : List Str
  m : FDef
def fuel : Nat := 60
/-- the text's names, of a def -/
def Fd.tv (r : Fd) (Γ : List (Str × Gk)) : Tv := ⟨r.N, r.d.scope, fun _ => true, Γ, true, none⟩
structure FdOk (Γ : List (Str × Gk)) (r : Fd) : Prop where
  sc : FnScope r.N r.ps r.d.scope
  tr : trss fuel fuel (r.tv Γ) r.d.body = some r.m.body
  np : r.m.np = r.ps.length
  nn : r.m.nn = r.N.length
  pn : r.ps.length ≤ r.N.length
  bd : ∀ (kV doc pm : Value) (an : Option Addr) (cdv ct : Value) (us : List Value), us.length = r.ps.length → bindArgs (PySem.W.fnOf r.d.name r.d.qual r.d.params r.d.body r.d.scope .none kV doc pm an cdv ct) ⟨us, []⟩ = pure (r.ps.zip us)
/-- what the top left, by the table Γ of its names -/
structure RowF (Γ : List (Str × Gk)) (tbl : List Fd) (w : World) (K : PySem.W.Frag) (mg : Str → Option Value) (cA : Nat → Option Addr) : Prop where
  ok : ∀ r ∈ tbl, FdOk Γ r
  fd : ∀ r ∈ tbl, ∃ fd, FunD K r.d.name r.d.qual r.d.params r.d.body r.d.scope [] [] (He.fAd K r.d.at_) fd
  fn : ∀ x f, Γ.lookup x = some (.fn f) → ∃ r ∈ tbl, r.id = f ∧ mg x = some (.ref (He.fAd K r.d.at_))
  con : ∀ x d, Γ.lookup x = some (.con d) → ∃ v u, mg x = some u ∧ RelV v u ∧ ∀ H, Rp H d v
  tab : ∀ x t, Γ.lookup x = some (.tab t) → ∃ ta, TabK K w ta t ∧ mg x = some (.ref ta)
  exr : ∀ x c, Γ.lookup x = some (.exc c true) → ∃ C bmB B newId initId, cA c = some C ∧ ExcBaseFacts B newId initId bmB ∧ PySem.W.excIn K C bmB newId = true ∧ mg x = some (.ref C) ∧ PySem.W.keepIn K (.ref C) = true ∧
    ∀ (M : Model) (h : Heap), K.In h → PySem.W.Looks M h (isSubtype (.ref C) (.type "BaseException")) true ∧ PySem.W.Looks M h (typeOf (.ref C)) (.type "type")
  blt : ∀ x, bltNames.contains x = true → Γ.lookup x = none → mg x = none
  uniq : ∀ r ∈ tbl, ∀ r' ∈ tbl, r.id = r'.id → r = r'
def tblT (tbl : List Fd) (i : Nat) : Option FDef := (tbl.find? fun r => r.id == i).map (·.m)
section
variable {P : Program} {w : World} {Γ : List (Str × Gk)} {tbl : List Fd} {K : PySem.W.Frag} {mg : Str → Option Value} {cA : Nat → Option Addr} {base : Heap} {L : Cls}
theorem RowF.find (Fx : RowF Γ tbl w K mg cA) {r : Fd} (h : r ∈ tbl) : tblT tbl r.id = some r.m := by
  unfold tblT
  cases e : tbl.find? (fun x => x.id == r.id) with
  | none =>
    have := List.find?_eq_none.mp e r h
    simp at this
  | some z =>
    have h1 := List.mem_of_find?_eq_some e
    have h2 : z.id = r.id := by simpa using List.find?_some e
    rw [Fx.uniq z h1 r h h2]; rfl
theorem begn_rs {ds : List D} {vs : List V} {H : Hp} {N : List Str} {nn : Nat} (rps : Rps H ds vs) (hn : nn = N.length) (hl : ds.length ≤ nn) : Rs none H (begn nn ds) (L2.start N vs) where
  len := by
    unfold begn L2.start
    simp only [List.length_append, List.length_map, List.length_replicate, rps.len, hn]
  at_ := fun i d e => by
    unfold begn at e
    unfold L2.start
    by_cases hi : i < ds.length
    · rw [List.getElem?_append_left (by simpa using hi), List.getElem?_map] at e
      cases q : ds[i]? with
      | none => rw [q] at e; cases e
      | some x =>
        rw [q] at e
        simp at e
        subst e
        obtain ⟨v, ev, rv⟩ := rps.get q
        refine ⟨v, ?_, rv⟩
        rw [List.getElem?_append_left (by rw [List.length_map, ← rps.len]; exact hi), List.getElem?_map, ev]; rfl
    · rw [List.getElem?_append_right (by simpa using hi)] at e
      rw [List.getElem?_replicate] at e
      split at e <;> cases e
  ev_ := fun i a z => by cases z
theorem fn_sound (Fx : RowF Γ tbl w K mg cA) : ∀ (n : Nat) (r : Fd), r ∈ tbl → ∀ fd, FunD K r.d.name r.d.qual r.d.params r.d.body r.d.scope [] [] (He.fAd K r.d.at_) fd →
    FnOk P w K mg base (L2.CX P w) n (He.fAd K r.d.at_) fd r.ps (spC K cA (cN (tblT tbl) L n r.id))
  | 0, r, hr, fd, F => ⟨fun vs H Q E ⟨_, _, _, _, _, _, z, _⟩ => z.elim, fun A outer s H args us vs Q E _ _ _ _ ⟨_, _, _, _, _, _, z, _⟩ => z.elim⟩
  | n + 1, r, hr, fd, F => by
    have ok := Fx.ok r hr
    have ef := Fx.find hr
    refine F.ok ok.sc (fun vs H Q E ⟨ds, h, Qc, Xc, rps, rh, z, _⟩ => ?_) fun cdv A outer s H vs Q E hroom ⟨ds, h, Qc, Xc, rps, rh, z, qq, qx⟩ => ?_
    · unfold cN at z
      rw [ef] at z
      rw [← rps.len, ← ok.np]; exact z.1
    · unfold cN at z
      rw [ef] at z
      obtain ⟨hl, z⟩ := z
      have o : Cxs (r.tv Γ) (cxOf (L2.CX P w) P w K mg base r.N r.d.qual r.d.scope (He.fAd K r.d.at_) cdv A outer s H E) ⟨K, none, fun cls d _ H => E cls d H, cA⟩ ⟨cN (tblT tbl) L n, L, none⟩ := {
        hN := rfl
        hsc := rfl
        how := rfl
        hK := rfl
        nd := ok.sc.nd
        hu := by
          have := hroom.un
          show (A.deeper (envOfC r.d.qual r.d.scope s.heap.objs.size (He.fAd K r.d.at_) cdv)).units + 200 < cLine
          omega
        calm := fun _ => rfl
        tk := takes_of rfl rfl rfl rfl
        ev := fun i a z => by cases z
        ise := fun i _ _ _ _ _ _ z => by cases z
        atf := fun i _ _ _ z => by cases z
        fn := fun _ x f e => by
          obtain ⟨r', hr', e1, e2⟩ := Fx.fn x f e
          obtain ⟨fd', F'⟩ := Fx.fd r' hr'
          subst e1
          exact ⟨n, _, fd', r'.ps, fn_sound Fx n r' hr' fd' F', hroom, e2, F'.kp, F'.bindsN (Fx.ok r' hr').bd⟩
        con := Fx.con
        tab := Fx.tab
        blt := Fx.blt
        pw := fun _ => passes_of rfl
        bk := by
          show (if r.d.scope.kind.isAnnotationScope then ScopeKind.function else r.d.scope.kind) = _
          rw [ok.sc.kind]; rfl
        exr := fun _ x c e => Fx.exr x c e }
      refine ⟨_, trss_ok o ok.tr, begn r.m.nn ds, h, _, begn_rs rps ok.nn (by rw [hl, ok.np, ok.nn]; exact ok.pn), rh, z, fun c' h' σ' H' ⟨h0, sb, k⟩ rs' rh' x' => qq _ _ _ _ k rfl (rh'.sub sb) x', fun d h' v H' ⟨h0, sb, k⟩ r' rh' x' => qq _ _ _ _ k r' (rh'.sub sb) x', fun x c' h' cls dd σ' H' ⟨h0, sb, k⟩ r' rs' rh' x' => qx _ _ _ _ _ k r' (rh'.sub sb) x'⟩
end
end Sr

set_option Elab.async false
set_option linter.all false
set_option maxRecDepth 100000
set_option autoImplicit false
set_option maxHeartbeats 2000000
/-! Sr18: from what the top left to the defs' facts; a law's end. -/
namespace Sr
open PySem PySem.Spec PyProof.Rows L2
/-! ### the facts that are asked of the top -/
def faG : Str × Gk → List He.Fa
  | (x, .fn _) => [.glo x]
  | (x, .con (.int i)) => [.int x i]
  | (x, .con (.str z)) => [.str x z]
  | (x, .con _) => []
  | (x, .tab _) => [.glo x]
  | (x, .exc _ true) => [.glo x, .exc x]
  | (x, .exc _ false) => [.glo x]
def faOf (Γ : List (Str × Gk)) : List He.Fa := Γ.flatMap faG ++ (bltNames.filter fun x => (Γ.lookup x).isNone).map .free
def tsOf (Γ : List (Str × Gk)) : List He.Tab := Γ.filterMap fun p => match p.2 with
  | .tab t => some (fun K => He.ga K p.1, t.map fun q => match q.1 with
    | .str x => x
    | _ => Str.empty)
  | _ => none
def noList (K : PySem.W.Frag) : Bool := K.all fun p => !decide (p.2.cls = .type "list")
def valB : D → Value → Bool
  | .int i, .int j _ => decide (i = j)
  | .str x, .str y _ => decide (x = y)
  | .bl a, .bool b => decide (a = b)
  | .non, .none => true
  | _, _ => false
def entB : List (D × D) → List DictEntry → Bool
  | [], [] => true
  | p :: t, e :: es => (match p.1, e.key with
    | .str x, .str y _ => decide (x = y)
    | _, _ => false) && valB p.2 e.val && entB t es
  | _, _ => false
def tabVB (K : PySem.W.Frag) (a : Addr) (t : List (D × D)) : Bool := match K.lookup a with
  | some ⟨_, _, .dict es _, _⟩ => entB t es.toList
  | _ => false
def exG (Γ : List (Str × Gk)) (K : PySem.W.Frag) : Bool := noList K && Γ.all fun p => match p.2 with
  | .tab t => tabVB K (He.ga K p.1) t
  | _ => true
def excAt (Γ : List (Str × Gk)) (c : Nat) : Option Str := (Γ.find? fun p => match p.2 with
  | .exc c' _ => c' == c
  | _ => false).map (·.1)
def cAof (Γ : List (Str × Gk)) (K : PySem.W.Frag) (c : Nat) : Option Addr := (excAt Γ c).map (He.ga K)
def okG (Γ : List (Str × Gk)) (tbl : List Fd) : Bool := Γ.all fun p => match p.2 with
  | .fn f => tbl.any fun r => r.id == f && decide (r.d.at_ = (p.1, none))
  | .con (.int _) => true
  | .con (.str _) => true
  | .con _ => false
  | .tab _ => true
  | .exc c _ => decide (excAt Γ c = some p.1)
theorem valB_ok {d : D} {u : Value} (h : valB d u = true) : ∃ v, RelV v u ∧ ∀ H, Rp H d v := by
  unfold valB at h
  split at h
  · have := of_decide_eq_true h; subst this; exact ⟨.int _, ⟨_, rfl⟩, fun _ => rfl⟩
  · have := of_decide_eq_true h; subst this; exact ⟨.str _, ⟨_, rfl⟩, fun _ => rfl⟩
  · have := of_decide_eq_true h; subst this; exact ⟨.bl _, rfl, fun _ => rfl⟩
  · exact ⟨.non, rfl, fun _ => rfl⟩
  · cases h
theorem entB_ok : ∀ {t : List (D × D)} {es : List DictEntry}, entB t es = true → TabE t es
  | [], [], _ => .nil
  | [], _ :: _, h => by cases h
  | _ :: _, [], h => by cases h
  | p :: t, e :: es, h => by
    unfold entB at h
    rw [Bool.and_eq_true, Bool.and_eq_true] at h
    obtain ⟨⟨h1, h2⟩, h3⟩ := h
    obtain ⟨v, r, k⟩ := valB_ok h2
    refine .cons ?_ (entB_ok h3)
    split at h1
    · rename_i x y tk e1 e2
      have := of_decide_eq_true h1
      subst this
      exact ⟨x, tk, v, e2, e1, r, k⟩
    · cases h1
theorem nodup_inj {α β : Type} {f : α → β} : ∀ {l : List α} {a b : α}, (l.map f).Nodup → a ∈ l → b ∈ l → f a = f b → a = b
  | [], _, _, _, h, _, _ => by cases h
  | x :: l, a, b, nd, ha, hb, e => by
    rw [List.map_cons, List.nodup_cons] at nd
    rcases List.mem_cons.mp ha with ea | ha
    · rcases List.mem_cons.mp hb with eb | hb
      · rw [ea, eb]
      · exact absurd (List.mem_map.mpr ⟨b, hb, by rw [← e, ea]⟩) nd.1
    · rcases List.mem_cons.mp hb with eb | hb
      · exact absurd (List.mem_map.mpr ⟨a, ha, by rw [e, eb]⟩) nd.1
      · exact nodup_inj nd.2 ha hb e
section
variable {P : Program} {w : World} {Γ : List (Str × Gk)} {tbl : List Fd} {K : PySem.W.Frag} {mg : Str → Option Value} {h : Heap}
theorem rowF_of (X : K.In h) (G : h.Ns mainGlobals mg) (c : He.SaysX (faOf Γ) (tbl.map (·.d)) (tsOf Γ) [] (exG Γ) w h K) (ok : ∀ r ∈ tbl, FdOk Γ r) (hg : okG Γ tbl = true) (nd : (tbl.map (·.id)).Nodup)
    (nd0 : ∀ r ∈ tbl, r.d.dfl = [] ∧ r.d.kwd = []) : RowF Γ tbl w K mg (cAof Γ K) := by
  have cd : He.SaysD (faOf Γ) (tbl.map (·.d)) K := c.t.d
  have mem : ∀ {x : Str} {g : Gk}, Γ.lookup x = some g → (x, g) ∈ Γ := fun e => PySem.mem_of_lookup e
  have fac : ∀ {p : Str × Gk} {f : He.Fa}, p ∈ Γ → f ∈ faG p → f.ok K = true := fun hp hf => He.SaysD.facts cd (List.mem_append_left _ (List.mem_flatMap.mpr ⟨_, hp, hf⟩))
  have okp : ∀ {p : Str × Gk}, p ∈ Γ → _ := fun {p} hp => List.all_eq_true.mp hg p hp
  refine ⟨ok, fun r hr => ?_, fun x f e => ?_, fun x d e => ?_, fun x t e => ?_, fun x cc e => ?_, fun x hx e => ?_, fun r hr r' hr' e => ?_⟩
  · obtain ⟨i, hi, e⟩ := List.mem_iff_getElem.mp hr
    obtain ⟨fd, F⟩ := cd.def_ i (d := r.d) (by rw [List.getElem?_map, List.getElem?_eq_getElem hi, e]; rfl)
    obtain ⟨h1, h2⟩ := nd0 r hr
    have e1 : r.d.dvs K = [] := by unfold He.DefD.dvs; rw [h1]; rfl
    have e2 : r.d.kws K = [] := by unfold He.DefD.kws; rw [h2]; rfl
    rw [e1, e2] at F
    exact ⟨fd, F⟩
  · have hp := mem e
    have := okp hp
    simp only [List.any_eq_true, Bool.and_eq_true, beq_iff_eq, decide_eq_true_eq] at this
    obtain ⟨r, hr, h1, h2⟩ := this
    refine ⟨r, hr, h1, ?_⟩
    rw [h2]
    exact He.glo_ok X G (fac hp (f := .glo x) (by simp [faG]))
  · have hp := mem e
    have := okp hp
    cases d with
    | int i =>
      obtain ⟨t, e1⟩ := He.int_ok X G (fac hp (f := .int x i) (by simp [faG]))
      exact ⟨.int i, _, e1, ⟨t, rfl⟩, fun _ => rfl⟩
    | str z =>
      obtain ⟨t, e1⟩ := He.str_ok X G (fac hp (f := .str x z) (by simp [faG]))
      exact ⟨.str z, _, e1, ⟨t, rfl⟩, fun _ => rfl⟩
    | _ => exact nomatch (show false = true from this)
  · have hp := mem e
    refine ⟨He.ga K x, ?_, He.glo_ok X G (fac hp (f := .glo x) (by simp [faG]))⟩
    have ht : ((fun K => He.ga K x, t.map fun q => match q.1 with
      | .str x => x
      | _ => Str.empty) : He.Tab) ∈ tsOf Γ := List.mem_filterMap.mpr ⟨_, hp, rfl⟩
    obtain ⟨i, hi, ei⟩ := List.mem_iff_getElem.mp ht
    obtain ⟨es, n, kd⟩ := c.t.tab i (t := _) (by rw [List.getElem?_eq_getElem hi, ei])
    have hx := c.more
    unfold exG at hx
    rw [Bool.and_eq_true] at hx
    have hv : tabVB K (He.ga K x) t = true := List.all_eq_true.mp hx.2 _ hp
    have ka := kd.at_
    unfold tabVB at hv
    have ka' : K.lookup (He.ga K x) = some ⟨.type "dict", none, .dict es n, #[]⟩ := ka
    rw [ka'] at hv
    exact ⟨es, n, kd, entB_ok hv⟩
  · have hp := mem e
    have := okp hp
    obtain ⟨h1, h2, h3, h4⟩ := He.exc_ok (fac hp (f := .exc x) (by simp [faG]))
    refine ⟨He.ga K x, He.veBase, "ValueError", "ValueError.__new__", "ValueError.__init__", ?_, PySem.F.excBase_ValueError, h1, He.glo_ok X G (fac hp (f := .glo x) (by simp [faG])), h2, fun M hh hk => ?_⟩
    · unfold cAof
      rw [show excAt Γ cc = some x from of_decide_eq_true this]; rfl
    · exact ⟨PySem.W.looks_subIn hk h3, PySem.W.looks_typeIn hk h4⟩
  · exact He.free_ok X G (He.SaysD.facts cd (List.mem_append_right _ (List.mem_map.mpr ⟨x, List.mem_filter.mpr ⟨by simpa using hx, by rw [e]; rfl⟩, rfl⟩)))
  · exact nodup_inj nd hr hr' e
/-- what a call with nothing raised comes to -/
theorem fn_noexc {base : Heap} {k : Nat} {f : Addr} {fd : FuncData} {ps : List Str} {sp : Sp} (F : FnOk P w K mg base (L2.CX P w) k f fd ps sp) : FnOk P w K mg base CX0 k f fd ps (fun vs H Q _ => sp vs H Q fun _ _ _ => False) where
  len := fun vs H Q E z => F.len vs H Q _ z
  run := fun A outer s H args us vs Q E hr e0 hb r z => codeAny_mono (F.run A outer s H args us vs Q _ hr e0 hb r z) fun r s' q => by
    cases r with
    | error e =>
      obtain ⟨_, _, _, _, _, _, _, _, _, _, _, _, z⟩ := q
      exact z.elim
    | ok fl => cases fl <;> exact q
theorem mem_lk {α : Type} : ∀ {l : List (Addr × α)} {n : Addr} {c : α}, l.lookup n = some c → (n, c) ∈ l
  | (k, v) :: r, n, c, h => by
    rw [List.lookup_cons] at h
    cases hb : n == k with
    | true =>
      rw [hb] at h
      cases h
      rw [eq_of_beq hb]
      exact List.mem_cons_self
    | false => rw [hb] at h; exact List.mem_cons_of_mem _ (mem_lk h)
theorem noList_ok (h : noList K = true) {a : Addr} {o : Obj} (e : K.lookup a = some o) : o.cls ≠ .type "list" := fun z => by
  have := List.all_eq_true.mp h (a, o) (mem_lk e)
  rw [z] at this
  simp at this
/-- the law's def, as the end asks for it -/
theorem law_F {L : Cls} {n : Nat} {r : Fd} {x : Str} {fa : Addr} (X : K.In h) (G : h.Ns mainGlobals mg) (c : He.SaysX (faOf Γ) (tbl.map (·.d)) (tsOf Γ) [] (exG Γ) w h K) (ok : ∀ r ∈ tbl, FdOk Γ r) (hg : okG Γ tbl = true) (nd : (tbl.map (·.id)).Nodup)
    (nd0 : ∀ r ∈ tbl, r.d.dfl = [] ∧ r.d.kwd = []) (hr : r ∈ tbl) (hl : Γ.lookup ("law" : Str) = some (.fn r.id)) (hx : r.ps = [x]) (hfa : mg ("law" : Str) = some (.ref fa))
    (law : ∀ (a : Addr) (ns : List Int) (h : Hc), ns.length ≤ 63 → h a = some (.lck (.lst (ns.map D.int))) → cN (tblT tbl) L n r.id [.ref a] h (fun v _ => v = .bl true) (fun _ _ => False)) :
    ∃ (K : PySem.W.Frag) (fd : FuncData) (sp : Sp), K.In h ∧ (∀ (s : Shared) (u : Value), BindsTo s fd ⟨[u], []⟩ [(x, u)]) ∧
        (∀ (H : Hp) (a : Addr) (ns : List Int), ns.length ≤ 63 → Only H → SqL K H a (ns.map V.int) → sp [.ref a] H (fun v _ => v = .bl true) fun _ _ _ => False) ∧
        ∀ base : Heap, K.In base → base.Ns mainGlobals mg → FnOk P w K mg base CX0 n fa fd [x] sp := by
  have Fx := rowF_of X G c ok hg nd nd0
  obtain ⟨fd, F⟩ := Fx.fd r hr
  refine ⟨K, fd, fun vs H Q _ => spC K (cAof Γ K) (cN (tblT tbl) L n r.id) vs H Q fun _ _ _ => False, X, fun s u => ?_, fun H a ns hlen _ hS => ?_, fun base KB GB => ?_⟩
  · have := FunD.bindsA (ps := r.ps) F (ok r hr).bd s [u] (by rw [hx]; rfl)
    rw [hx] at this
    exact this
  · rcases hS with hS | ⟨o, its, k, e, e2, _⟩
    · refine ⟨[.ref a], fun b => if b = a then some (.lck (.lst (ns.map D.int))) else none, _, _, .cons rfl .nil, fun b o e => ?_, law a ns _ hlen (if_pos rfl), fun d h' v H' q r' _ _ => ?_, fun x h' cls dd H' z _ _ _ => z.elim⟩
      · dsimp only at e
        split at e
        · rename_i z
          subst z
          cases e
          exact ⟨_, hS, Rps.ints' ns⟩
        · cases e
      · have : d = .bl true := q
        subst this
        exact r'
    · have hm := c.more
      unfold exG at hm
      rw [Bool.and_eq_true] at hm
      exact absurd e2 (noList_ok hm.1 e)
  · obtain ⟨r', hr', e1, e2⟩ := Fx.fn _ _ hl
    have : r' = r := nodup_inj nd hr' hr e1
    subst this
    rw [hfa] at e2
    cases e2
    rw [← hx]
    exact fn_noexc (fn_sound Fx n r' hr fd F)
end
end Sr

set_option Elab.async false
set_option linter.all false
set_option maxRecDepth 100000
set_option autoImplicit false
/-! SrM1: defs in the small syntax, as the translator prints them. -/
namespace Sr
open PySem
def m_whole_number : Ss := 
  (.cons (.ret (.and (.isi (.var 0) [.int]) (.not (.isi (.var 0) [.bool])))) .nil)
def m_room_of : Ss := 
  (.cons (.ret (.and (.call 1 (.cons (.var 0) .nil)) (.chain .le .lt (.con (.int 0)) (.var 0) (.var 1)))) .nil)
def m_sign_of_way : Ss := 
  (.cons (.ret (.and (.isi (.var 0) [.str]) (.and (.cmp .eq (.bi .len (.cons (.var 0) .nil)) (.con (.int 1))) (.cmp .isin (.var 0) (.con (.str "abcdefghijklmnopqrstuvwxyz")))))) .nil)
def m_way_of : Ss := 
  (.cons (.ifs (.or (.not (.isi (.var 0) [.tuple])) (.cmp .ne (.bi .len (.cons (.var 0) .nil)) (.con (.int 4)))) 
    (.cons (.ret (.con (.bl false))) .nil) .nil) 
  (.cons (.asg (.tup (.cons (.nm 2) (.cons (.nm 3) (.cons (.nm 4) (.cons (.nm 5) .nil))))) (.var 0)) 
  (.cons (.ifs (.or (.not (.call 2 (.cons (.var 2) (.cons (.var 1) .nil)))) (.or (.not (.call 2 (.cons (.var 4) (.cons (.var 1) .nil)))) (.not (.call 3 (.cons (.var 5) .nil))))) 
    (.cons (.ret (.con (.bl false))) .nil) .nil) 
  (.cons (.ret (.and (.isi (.var 3) [.str]) (.gin (.var 3) [((.str "up"), (.int 1)), ((.str "down"), (.int (-1))), ((.str "stay"), (.int 0)), ((.str "zero"), (.int 0))]))) .nil))))
def m_is_house : Ss := 
  (.cons (.ifs (.or (.not (.isi (.var 0) [.tuple])) (.cmp .ne (.bi .len (.cons (.var 0) .nil)) (.con (.int 2)))) 
    (.cons (.ret (.con (.bl false))) .nil) .nil) 
  (.cons (.asg (.tup (.cons (.nm 1) (.cons (.nm 2) .nil))) (.var 0)) 
  (.cons (.ifs (.or (.not (.call 1 (.cons (.var 1) .nil))) (.or (.cmp .lt (.var 1) (.con (.int 1))) (.cmp .gt (.var 1) (.con (.int 12))))) 
    (.cons (.ret (.con (.bl false))) .nil) .nil) 
  (.cons (.ifs (.or (.not (.isi (.var 2) [.tuple])) (.cmp .gt (.bi .len (.cons (.var 2) .nil)) (.con (.int 100)))) 
    (.cons (.ret (.con (.bl false))) .nil) .nil) 
  (.cons (.ifs (.not (.bi .all (.cons (.lc (.call 4 (.cons (.var 3) (.cons (.var 1) .nil))) (.nm 3) (.of (.var 2)) .nil [3]) .nil))) 
    (.cons (.ret (.con (.bl false))) .nil) .nil) 
  (.cons (.ret (.cmp .eq (.bi .lenset (.cons (.var 2) .nil)) (.bi .len (.cons (.var 2) .nil)))) .nil))))))
def m_law_cell : Ss := 
  (.cons (.ifs (.cmp .eq (.bi .len (.cons (.var 0) .nil)) (.con (.int 0))) 
    (.cons (.ret (.bin .mul (.con (.int 7919)) (.bin .add (.var 1) (.con (.int 1))))) .nil) .nil) 
  (.cons (.ifs (.cmp .lt (.var 1) (.bi .len (.cons (.var 0) .nil))) 
    (.cons (.ret (.ix (.var 0) (.var 1))) .nil) .nil) 
  (.cons (.ret (.bin .add (.ix (.var 0) (.bin .mod (.var 1) (.bi .len (.cons (.var 0) .nil)))) (.bin .mul (.con (.int 104729)) (.var 1)))) .nil)))
def m_law_mixed : Ss := 
  (.cons (.asg (.nm 3) (.bin .mod (.bin .mul (.bin .add (.bin .add (.bin .add (.var 0) (.bin .mul (.bin .mul (.con (.int 7)) (.var 1)) (.var 1))) (.bin .mul (.con (.int 13)) (.var 1))) (.con (.int 5))) (.con (.int 48271))) (.con (.int 2147483647)))) 
  (.cons (.asg (.nm 3) (.bin .mod (.bin .mul (.var 3) (.var 3)) (.con (.int 2147483629)))) 
  (.cons (.ret (.bin .mod (.bin .mul (.var 3) (.con (.int 39373))) (.var 2))) .nil)))
def m_law_draws : Ss := 
  (.cons (.asg (.nm 3) (.con (.int 0))) 
  (.cons (.ifs (.cmp .ge (.var 0) (.bin .pow (.con (.int 10)) (.con (.int 18)))) 
    (.cons (.asg (.nm 3) (.bin .sub (.var 0) (.bin .pow (.con (.int 10)) (.con (.int 18))))) .nil) .nil) 
  (.cons (.asg (.nm 4) (.lst .nil)) 
  (.cons (.forr (.nm 5) (.rng (.cons (.bi .len (.cons (.var 1) .nil)) .nil)) 
    (.cons (.ifs (.cmp .gt (.var 3) (.con (.int 1))) 
      (.cons (.ex (.mt .append (.var 4) (.cons (.bin .mod (.var 3) (.ix (.var 1) (.var 5))) .nil))) 
      (.cons (.asg (.nm 3) (.bin .fdiv (.var 3) (.ix (.var 1) (.var 5)))) .nil)) 
      (.cons (.ex (.mt .append (.var 4) (.cons (.bin .mod (.call 7 (.cons (.var 0) (.cons (.var 5) (.cons (.var 2) .nil)))) (.ix (.var 1) (.var 5))) .nil))) .nil)) .nil)) 
  (.cons (.ret (.var 4)) .nil)))))
def m_law_spare : Ss := 
  (.cons (.ifs (.cmp .ge (.var 0) (.bin .pow (.con (.int 10)) (.con (.int 18)))) 
    (.cons (.ret (.bin .add (.bin .fdiv (.bin .sub (.var 0) (.bin .pow (.con (.int 10)) (.con (.int 18)))) (.var 1)) (.bin .pow (.con (.int 10)) (.con (.int 18))))) .nil) .nil) 
  (.cons (.ret (.bin .add (.var 0) (.con (.int 104729)))) .nil))
def m_law_unlike : Ss := 
  (.cons (.asg (.nm 1) (.lst .nil)) 
  (.cons (.forr (.nm 2) (.of (.var 0)) 
    (.cons (.ifs (.cmp .notin (.var 2) (.var 1)) 
      (.cons (.ex (.mt .append (.var 1) (.cons (.var 2) .nil))) .nil) .nil) .nil)) 
  (.cons (.ret (.bi .tuple (.cons (.var 1) .nil))) .nil)))
def m_law_drawn_house : Ss := 
  (.cons (.asg (.nm 2) (.call 8 (.cons (.var 0) (.cons (.bin .add (.lst (.cons (.con (.int 8)) (.cons (.con (.int 12)) (.cons (.con (.int 13)) (.cons (.con (.int 31)) .nil))))) (.bin .mul (.lst (.cons (.con (.int 12)) (.cons (.con (.int 6)) (.cons (.con (.int 12)) (.cons (.con (.int 3)) .nil))))) (.con (.int 30)))) (.cons (.var 1) .nil))))) 
  (.cons (.asg (.nm 3) (.bin .add (.con (.int 1)) (.bin .mod (.ix (.var 2) (.con (.int 1))) (.ix (.lst (.cons (.con (.int 4)) (.cons (.con (.int 4)) (.cons (.con (.int 4)) (.cons (.con (.int 5)) (.cons (.con (.int 3)) (.cons (.con (.int 2)) (.cons (.con (.int 5)) (.cons (.con (.int 12)) .nil))))))))) (.ix (.var 2) (.con (.int 0))))))) 
  (.cons (.asg (.nm 4) (.ix (.var 2) (.con (.int 2)))) 
  (.cons (.ifs (.cmp .eq (.ix (.var 2) (.con (.int 0))) (.con (.int 7))) 
    (.cons (.asg (.nm 4) (.ix (.var 2) (.con (.int 3)))) .nil) .nil) 
  (.cons (.asg (.nm 5) (.lst .nil)) 
  (.cons (.forr (.nm 6) (.rng (.cons (.var 4) .nil)) 
    (.cons (.asg (.tup (.cons (.nm 7) (.cons (.nm 8) (.cons (.nm 9) (.cons (.nm 10) .nil))))) (.sl (.var 2) (.cons (.bin .add (.con (.int 4)) (.bin .mul (.con (.int 4)) (.var 6))) .nil) (.cons (.bin .add (.con (.int 8)) (.bin .mul (.con (.int 4)) (.var 6))) .nil))) 
    (.cons (.asg (.nm 11) (.ix (.lst (.cons (.con (.str "up")) (.cons (.con (.str "down")) (.cons (.con (.str "stay")) (.cons (.con (.str "zero")) (.cons (.con (.str "up")) (.cons (.con (.str "down")) .nil))))))) (.var 8))) 
    (.cons (.ex (.mt .append (.var 5) (.cons (.tup (.cons (.bin .mod (.var 7) (.var 3)) (.cons (.var 11) (.cons (.bin .mod (.var 9) (.var 3)) (.cons (.ix (.con (.str "abc")) (.var 10)) .nil))))) .nil))) .nil)))) 
  (.cons (.ret (.tup (.cons (.var 3) (.cons (.call 10 (.cons (.var 5) .nil)) .nil)))) .nil)))))))
def m_law_ring_house : Ss := 
  (.cons (.asg (.nm 2) (.call 8 (.cons (.var 0) (.cons (.lst (.cons (.con (.int 5)) (.cons (.con (.int 5)) (.cons (.con (.int 2)) (.cons (.con (.int 2)) (.cons (.con (.int 4)) (.cons (.con (.int 4)) (.cons (.con (.int 2)) .nil)))))))) (.cons (.var 1) .nil))))) 
  (.cons (.par 3 4 (.bin .add (.con (.int 1)) (.ix (.var 2) (.con (.int 0)))) (.bin .add (.con (.int 1)) (.ix (.var 2) (.con (.int 1))))) 
  (.cons (.asg (.nm 5) (.bin .add (.bin .add (.var 3) (.var 4)) (.con (.int 2)))) 
  (.cons (.asg (.nm 6) (.lst (.cons (.tup (.cons (.con (.int 0)) (.cons (.con (.str "stay")) (.cons (.con (.int 1)) (.cons (.con (.str "a")) .nil))))) (.cons (.tup (.cons (.con (.int 0)) (.cons (.ix (.lst (.cons (.con (.str "stay")) (.cons (.con (.str "zero")) .nil))) (.ix (.var 2) (.con (.int 2)))) (.cons (.bin .add (.con (.int 1)) (.var 3)) (.cons (.con (.str "b")) .nil))))) .nil)))) 
  (.cons (.forr (.nm 7) (.rng (.cons (.var 3) .nil)) 
    (.cons (.ex (.mt .append (.var 6) (.cons (.tup (.cons (.bin .add (.con (.int 1)) (.var 7)) (.cons (.con (.str "up")) (.cons (.bin .add (.con (.int 1)) (.bin .mod (.bin .add (.var 7) (.con (.int 1))) (.var 3))) (.cons (.con (.str "a")) .nil))))) .nil))) .nil)) 
  (.cons (.forr (.nm 7) (.rng (.cons (.var 4) .nil)) 
    (.cons (.ex (.mt .append (.var 6) (.cons (.tup (.cons (.bin .add (.bin .add (.con (.int 1)) (.var 3)) (.var 7)) (.cons (.ix (.lst (.cons (.con (.str "up")) (.cons (.con (.str "down")) .nil))) (.ix (.var 2) (.con (.int 3)))) (.cons (.bin .add (.bin .add (.con (.int 1)) (.var 3)) (.bin .mod (.bin .add (.var 7) (.con (.int 1))) (.var 4))) (.cons (.con (.str "b")) .nil))))) .nil))) .nil)) 
  (.cons (.ex (.mt .append (.var 6) (.cons (.tup (.cons (.con (.int 1)) (.cons (.con (.str "stay")) (.cons (.bin .sub (.var 5) (.con (.int 1))) (.cons (.con (.str "c")) .nil))))) .nil))) 
  (.cons (.ex (.mt .append (.var 6) (.cons (.tup (.cons (.bin .add (.con (.int 1)) (.var 3)) (.cons (.con (.str "stay")) (.cons (.bin .sub (.var 5) (.con (.int 1))) (.cons (.con (.str "a")) .nil))))) .nil))) 
  (.cons (.ifs (.cmp .eq (.ix (.var 2) (.con (.int 4))) (.con (.int 0))) 
    (.cons (.ex (.mt .append (.var 6) (.cons (.tup (.cons (.bin .sub (.var 5) (.con (.int 1))) (.cons (.con (.str "down")) (.cons (.bin .sub (.var 5) (.con (.int 1))) (.cons (.con (.str "c")) .nil))))) .nil))) .nil) .nil) 
  (.cons (.ifs (.cmp .eq (.ix (.var 2) (.con (.int 5))) (.con (.int 0))) 
    (.cons (.ex (.mt .append (.var 6) (.cons (.tup (.cons (.bin .sub (.var 5) (.con (.int 1))) (.cons (.con (.str "zero")) (.cons (.con (.int 0)) (.cons (.con (.str "b")) .nil))))) .nil))) .nil) .nil) 
  (.cons (.ifs (.cmp .eq (.ix (.var 2) (.con (.int 6))) (.con (.int 1))) 
    (.cons (.asg (.nm 6) (.rev (.var 6))) .nil) .nil) 
  (.cons (.ret (.tup (.cons (.var 5) (.cons (.bi .tuple (.cons (.var 6) .nil)) .nil)))) .nil))))))))))))
def m_law_gate_house : Ss := 
  (.cons (.asg (.nm 2) (.call 8 (.cons (.var 0) (.cons (.lst (.cons (.con (.int 6)) (.cons (.con (.int 5)) (.cons (.con (.int 6)) (.cons (.con (.int 5)) (.cons (.con (.int 2)) (.cons (.con (.int 2)) (.cons (.con (.int 2)) .nil)))))))) (.cons (.var 1) .nil))))) 
  (.cons (.par 3 4 (.bin .add (.con (.int 1)) (.ix (.var 2) (.con (.int 0)))) (.bin .add (.con (.int 1)) (.ix (.var 2) (.con (.int 1))))) 
  (.cons (.asg (.nm 5) (.bin .add (.bin .add (.var 3) (.var 4)) (.con (.int 1)))) 
  (.cons (.asg (.nm 6) (.lst .nil)) 
  (.cons (.forr (.nm 7) (.rng (.cons (.var 3) .nil)) 
    (.cons (.ex (.mt .append (.var 6) (.cons (.tup (.cons (.var 7) (.cons (.con (.str "up")) (.cons (.bin .mod (.bin .add (.var 7) (.con (.int 1))) (.var 3)) (.cons (.ix (.con (.str "ab")) (.ix (.var 2) (.con (.int 4)))) .nil))))) .nil))) .nil)) 
  (.cons (.ex (.mt .append (.var 6) (.cons (.tup (.cons (.bin .mod (.ix (.var 2) (.con (.int 2))) (.var 3)) (.cons (.con (.str "stay")) (.cons (.var 3) (.cons (.con (.str "b")) .nil))))) .nil))) 
  (.cons (.forr (.nm 7) (.rng (.cons (.var 4) .nil)) 
    (.cons (.ex (.mt .append (.var 6) (.cons (.tup (.cons (.bin .add (.var 3) (.var 7)) (.cons (.con (.str "down")) (.cons (.bin .add (.var 3) (.bin .mod (.bin .add (.var 7) (.con (.int 1))) (.var 4))) (.cons (.con (.str "a")) .nil))))) .nil))) .nil)) 
  (.cons (.ex (.mt .append (.var 6) (.cons (.tup (.cons (.bin .add (.var 3) (.bin .mod (.ix (.var 2) (.con (.int 3))) (.var 4))) (.cons (.con (.str "zero")) (.cons (.bin .sub (.var 5) (.con (.int 1))) (.cons (.con (.str "c")) .nil))))) .nil))) 
  (.cons (.ex (.mt .append (.var 6) (.cons (.tup (.cons (.bin .sub (.var 5) (.con (.int 1))) (.cons (.ix (.lst (.cons (.con (.str "up")) (.cons (.con (.str "stay")) .nil))) (.ix (.var 2) (.con (.int 5)))) (.cons (.ix (.lst (.cons (.con (.int 0)) (.cons (.bin .sub (.var 5) (.con (.int 1))) .nil))) (.ix (.var 2) (.con (.int 6)))) (.cons (.con (.str "b")) .nil))))) .nil))) 
  (.cons (.ret (.tup (.cons (.var 5) (.cons (.call 10 (.cons (.var 6) .nil)) .nil)))) .nil))))))))))
def m_law_house : Ss := 
  (.cons (.asg (.nm 2) (.ix (.call 8 (.cons (.var 0) (.cons (.lst (.cons (.con (.int 8)) .nil)) (.cons (.var 1) .nil)))) (.con (.int 0)))) 
  (.cons (.asg (.nm 3) (.call 9 (.cons (.var 0) (.cons (.con (.int 8)) .nil)))) 
  (.cons (.ifs (.cmp .eq (.var 2) (.con (.int 6))) 
    (.cons (.ret (.call 12 (.cons (.var 3) (.cons (.var 1) .nil)))) .nil) .nil) 
  (.cons (.ifs (.cmp .eq (.var 2) (.con (.int 7))) 
    (.cons (.ret (.call 13 (.cons (.var 3) (.cons (.var 1) .nil)))) .nil) .nil) 
  (.cons (.ret (.call 11 (.cons (.var 3) (.cons (.var 1) .nil)))) .nil)))))
def m_law_whole : Ss := 
  (.cons (.ret (.and (.isi (.var 0) [.int]) (.not (.isi (.var 0) [.bool])))) .nil)
def m_law_is_house : Ss := 
  (.cons (.ifs (.or (.not (.isi (.var 0) [.tuple])) (.or (.cmp .ne (.bi .len (.cons (.var 0) .nil)) (.con (.int 2))) (.or (.not (.call 15 (.cons (.ix (.var 0) (.con (.int 0))) .nil))) (.not (.isi (.ix (.var 0) (.con (.int 1))) [.tuple]))))) 
    (.cons (.ret (.con (.bl false))) .nil) .nil) 
  (.cons (.asg (.tup (.cons (.nm 1) (.cons (.nm 2) .nil))) (.var 0)) 
  (.cons (.ifs (.or (.cmp .lt (.var 1) (.con (.int 1))) (.or (.cmp .gt (.var 1) (.con (.int 12))) (.cmp .gt (.bi .len (.cons (.var 2) .nil)) (.con (.int 100))))) 
    (.cons (.ret (.con (.bl false))) .nil) .nil) 
  (.cons (.forr (.nm 3) (.of (.var 2)) 
    (.cons (.ifs (.or (.not (.isi (.var 3) [.tuple])) (.or (.cmp .ne (.bi .len (.cons (.var 3) .nil)) (.con (.int 4))) (.or (.not (.call 15 (.cons (.ix (.var 3) (.con (.int 0))) .nil))) (.not (.call 15 (.cons (.ix (.var 3) (.con (.int 2))) .nil)))))) 
      (.cons (.ret (.con (.bl false))) .nil) .nil) 
    (.cons (.ifs (.or (.cmp .lt (.bi .min (.cons (.ix (.var 3) (.con (.int 0))) (.cons (.ix (.var 3) (.con (.int 2))) .nil))) (.con (.int 0))) (.or (.cmp .ge (.bi .max (.cons (.ix (.var 3) (.con (.int 0))) (.cons (.ix (.var 3) (.con (.int 2))) .nil))) (.var 1)) (.not (.isi (.ix (.var 3) (.con (.int 1))) [.str])))) 
      (.cons (.ret (.con (.bl false))) .nil) .nil) 
    (.cons (.ifs (.or (.cmp .notin (.ix (.var 3) (.con (.int 1))) (.tup (.cons (.con (.str "up")) (.cons (.con (.str "down")) (.cons (.con (.str "stay")) (.cons (.con (.str "zero")) .nil)))))) (.not (.isi (.ix (.var 3) (.con (.int 3))) [.str]))) 
      (.cons (.ret (.con (.bl false))) .nil) .nil) 
    (.cons (.ifs (.or (.cmp .ne (.bi .len (.cons (.ix (.var 3) (.con (.int 3))) .nil)) (.con (.int 1))) (.cmp .notin (.ix (.var 3) (.con (.int 3))) (.con (.str "abcdefghijklmnopqrstuvwxyz")))) 
      (.cons (.ret (.con (.bl false))) .nil) .nil) .nil))))) 
  (.cons (.ret (.cmp .eq (.bi .lenset (.cons (.var 2) .nil)) (.bi .len (.cons (.var 2) .nil)))) .nil)))))
def m_law_bad_things : Ss := 
  (.cons (.asg (.tup (.cons (.nm 2) (.cons (.nm 3) .nil))) (.var 0)) 
  (.cons (.asg (.nm 4) (.lst (.cons (.con .non) (.cons (.con (.bl true)) (.cons (.con (.int 0)) (.cons (.con (.str "1:")) (.cons (.tup .nil) (.cons (.lst .nil) (.cons (.tup (.cons (.var 2) .nil)) (.cons (.lst (.cons (.var 2) (.cons (.var 3) .nil))) (.cons (.tup (.cons (.var 2) (.cons (.bi .list (.cons (.var 3) .nil)) .nil))) (.cons (.tup (.cons (.var 2) (.cons (.var 3) (.cons (.tup .nil) .nil)))) (.cons (.tup (.cons (.var 2) (.cons (.con .non) .nil))) .nil))))))))))))) 
  (.cons (.asg (.nm 4) (.bin .add (.var 4) (.lst (.cons (.tup (.cons (.con (.int 0)) (.cons (.tup .nil) .nil))) (.cons (.tup (.cons (.con (.int 13)) (.cons (.tup .nil) .nil))) (.cons (.tup (.cons (.neg (.con (.int 1))) (.cons (.tup .nil) .nil))) (.cons (.tup (.cons (.con (.bl true)) (.cons (.tup .nil) .nil))) (.cons (.tup (.cons (.con (.str "1")) (.cons (.tup .nil) .nil))) (.cons (.tup (.cons (.con .non) (.cons (.var 3) .nil))) (.cons (.tup (.cons (.con (.int 1)) (.cons (.tup (.cons (.tup .nil) .nil)) .nil))) (.cons (.tup (.cons (.con (.int 1)) (.cons (.tup (.cons (.con .non) .nil)) .nil))) (.cons (.var 3) .nil)))))))))))) 
  (.cons (.asg (.tup (.cons (.nm 5) (.cons (.nm 6) (.cons (.nm 7) (.cons (.nm 8) .nil))))) (.tup (.cons (.con (.int 0)) (.cons (.con (.str "up")) (.cons (.con (.int 0)) (.cons (.con (.str "a")) .nil)))))) 
  (.cons (.asg (.nm 9) (.tup .nil)) 
  (.cons (.asg (.nm 10) (.tup .nil)) 
  (.cons (.ifs (.cmp .gt (.bi .len (.cons (.var 3) .nil)) (.con (.int 0))) 
    (.cons (.asg (.nm 1) (.bin .mod (.var 1) (.bi .len (.cons (.var 3) .nil)))) 
    (.cons (.asg (.tup (.cons (.nm 5) (.cons (.nm 6) (.cons (.nm 7) (.cons (.nm 8) .nil))))) (.ix (.var 3) (.var 1))) 
    (.cons (.asg (.nm 9) (.sl (.var 3) .nil (.cons (.var 1) .nil))) 
    (.cons (.asg (.nm 10) (.sl (.var 3) (.cons (.bin .add (.var 1) (.con (.int 1))) .nil) .nil)) .nil)))) .nil) 
  (.cons (.asg (.nm 11) (.lst (.cons (.tup (.cons (.var 2) (.cons (.var 6) (.cons (.var 7) (.cons (.var 8) .nil))))) (.cons (.tup (.cons (.var 5) (.cons (.var 6) (.cons (.var 2) (.cons (.var 8) .nil))))) (.cons (.tup (.cons (.neg (.con (.int 1))) (.cons (.var 6) (.cons (.var 7) (.cons (.var 8) .nil))))) (.cons (.tup (.cons (.var 5) (.cons (.var 6) (.cons (.neg (.con (.int 1))) (.cons (.var 8) .nil))))) .nil)))))) 
  (.cons (.asg (.nm 11) (.bin .add (.var 11) (.lst (.cons (.tup (.cons (.var 5) (.cons (.con (.str "Up")) (.cons (.var 7) (.cons (.var 8) .nil))))) (.cons (.tup (.cons (.var 5) (.cons (.con (.str "")) (.cons (.var 7) (.cons (.var 8) .nil))))) (.cons (.tup (.cons (.var 5) (.cons (.con .non) (.cons (.var 7) (.cons (.var 8) .nil))))) .nil)))))) 
  (.cons (.asg (.nm 11) (.bin .add (.var 11) (.lst (.cons (.tup (.cons (.var 5) (.cons (.con (.int 1)) (.cons (.var 7) (.cons (.var 8) .nil))))) (.cons (.tup (.cons (.var 5) (.cons (.var 6) (.cons (.var 7) (.cons (.con (.str "A")) .nil))))) (.cons (.tup (.cons (.var 5) (.cons (.var 6) (.cons (.var 7) (.cons (.con (.str "ab")) .nil))))) .nil)))))) 
  (.cons (.asg (.nm 11) (.bin .add (.var 11) (.lst (.cons (.tup (.cons (.var 5) (.cons (.var 6) (.cons (.var 7) (.cons (.con (.str "")) .nil))))) (.cons (.tup (.cons (.var 5) (.cons (.var 6) (.cons (.var 7) (.cons (.con .non) .nil))))) (.cons (.tup (.cons (.var 5) (.cons (.var 6) (.cons (.var 7) (.cons (.con (.str "1")) .nil))))) .nil)))))) 
  (.cons (.asg (.nm 11) (.bin .add (.var 11) (.lst (.cons (.tup (.cons (.var 5) (.cons (.var 6) (.cons (.var 7) (.cons (.con (.int 1)) .nil))))) (.cons (.tup (.cons (.var 5) (.cons (.var 6) (.cons (.var 7) (.cons (.lst (.cons (.con (.str "a")) .nil)) .nil))))) (.cons (.lst (.cons (.var 5) (.cons (.var 6) (.cons (.var 7) (.cons (.var 8) .nil))))) .nil)))))) 
  (.cons (.asg (.nm 11) (.bin .add (.var 11) (.lst (.cons (.tup (.cons (.var 5) (.cons (.var 6) (.cons (.var 7) .nil)))) (.cons (.tup (.cons (.var 5) (.cons (.var 6) (.cons (.var 7) (.cons (.var 8) (.cons (.var 8) .nil)))))) (.cons (.tup (.cons (.bi .str (.cons (.var 5) .nil)) (.cons (.var 6) (.cons (.var 7) (.cons (.var 8) .nil))))) (.cons (.con (.str "0upa")) (.cons (.con (.int 7)) .nil)))))))) 
  (.cons (.asg (.nm 11) (.bin .add (.var 11) (.lst (.cons (.tup (.cons (.con (.bl false)) (.cons (.var 6) (.cons (.var 7) (.cons (.var 8) .nil))))) (.cons (.tup (.cons (.var 5) (.cons (.var 6) (.cons (.con (.bl false)) (.cons (.var 8) .nil))))) (.cons (.tup (.cons (.con .non) (.cons (.var 6) (.cons (.var 7) (.cons (.var 8) .nil))))) .nil)))))) 
  (.cons (.asg (.nm 11) (.bin .add (.var 11) (.lst (.cons (.tup (.cons (.var 5) (.cons (.con (.str "upp")) (.cons (.var 7) (.cons (.var 8) .nil))))) .nil)))) 
  (.cons (.asg (.nm 11) (.bin .add (.var 11) (.lst (.cons (.tup (.cons (.var 5) (.cons (.var 6) (.cons (.con .non) (.cons (.var 8) .nil))))) (.cons (.tup (.cons (.var 5) (.cons (.tup (.cons (.con (.str "up")) .nil)) (.cons (.var 7) (.cons (.var 8) .nil))))) (.cons (.tup (.cons (.var 5) (.cons (.var 6) (.cons (.var 7) (.cons (.con (.str " ")) .nil))))) .nil)))))) 
  (.cons (.asg (.nm 4) (.bin .add (.var 4) (.lc (.tup (.cons (.var 2) (.cons (.bin .add (.bin .add (.var 9) (.tup (.cons (.var 12) .nil))) (.var 10)) .nil))) (.nm 12) (.of (.var 11)) .nil [12]))) 
  (.cons (.ifs (.cmp .gt (.bi .len (.cons (.var 3) .nil)) (.con (.int 0))) 
    (.cons (.ex (.mt .append (.var 4) (.cons (.tup (.cons (.var 2) (.cons (.bin .add (.var 3) (.tup (.cons (.ix (.var 3) (.var 1)) .nil))) .nil))) .nil))) .nil) .nil) 
  (.cons (.ret (.var 4)) .nil)))))))))))))))))))
def m_law_many_ways : Ss := 
  (.cons (.asg (.nm 2) (.lst .nil)) 
  (.cons (.forr (.nm 3) (.rng (.cons (.con (.int 1300)) .nil)) 
    (.cons (.asg (.nm 4) (.ix (.lst (.cons (.con (.str "up")) (.cons (.con (.str "down")) (.cons (.con (.str "stay")) (.cons (.con (.str "zero")) .nil))))) (.bin .mod (.var 3) (.con (.int 4))))) 
    (.cons (.ex (.mt .append (.var 2) (.cons (.tup (.cons (.bin .mod (.bin .fdiv (.var 3) (.con (.int 4))) (.var 0)) (.cons (.var 4) (.cons (.bin .mod (.bin .add (.bin .fdiv (.bin .fdiv (.var 3) (.con (.int 4))) (.var 0)) (.var 1)) (.var 0)) (.cons (.ix (.con (.str "abcdefghij")) (.bin .mod (.bin .fdiv (.bin .fdiv (.var 3) (.con (.int 4))) (.var 0)) (.con (.int 10)))) .nil))))) .nil))) .nil))) 
  (.cons (.ret (.bi .tuple (.cons (.bi .sortset (.cons (.var 2) .nil)) .nil))) .nil)))
def m_law_signs : Ss := 
  (.cons (.asg (.nm 0) (.con (.str " !\"#$&'()*+,-./0123456789:;<=>?@ABCDEFGHIJKLMNOPQRSTUVWXYZ[\\]^_`"))) 
  (.cons (.ret (.bin .add (.var 0) (.con (.str "abcdefghijklmnopqrstuvwxyz{|}~")))) .nil))
def m_law_with_sign : Ss := 
  (.cons (.asg (.tup (.cons (.nm 3) (.cons (.nm 4) .nil))) (.var 0)) 
  (.cons (.ifs (.cmp .eq (.bi .len (.cons (.var 4) .nil)) (.con (.int 0))) 
    (.cons (.ret (.tup (.cons (.var 3) (.cons (.tup (.cons (.tup (.cons (.bin .mod (.var 1) (.var 3)) (.cons (.con (.str "up")) (.cons (.con (.int 0)) (.cons (.var 2) .nil))))) .nil)) .nil)))) .nil) .nil) 
  (.cons (.asg (.nm 5) (.bin .mod (.var 1) (.bi .len (.cons (.var 4) .nil)))) 
  (.cons (.ret (.tup (.cons (.var 3) (.cons (.bin .add (.bin .add (.sl (.var 4) .nil (.cons (.var 5) .nil)) (.tup (.cons (.bin .add (.sl (.ix (.var 4) (.var 5)) .nil (.cons (.con (.int 3)) .nil)) (.tup (.cons (.var 2) .nil))) .nil))) (.sl (.var 4) (.cons (.bin .add (.var 5) (.con (.int 1))) .nil) .nil)) .nil)))) .nil))))
def m_law : Ss := 
  (.cons (.asg (.nm 1) (.call 14 (.cons (.call 6 (.cons (.var 0) (.cons (.con (.int 0)) .nil))) (.cons (.con (.int 999999937)) .nil)))) 
  (.cons (.asg (.nm 2) (.call 8 (.cons (.call 6 (.cons (.var 0) (.cons (.con (.int 1)) .nil))) (.cons (.lst (.cons (.con (.int 100)) (.cons (.con (.int 4)) (.cons (.con (.int 12)) .nil)))) (.cons (.con (.int 999999929)) .nil))))) 
  (.cons (.ifs (.cmp .isnot (.call 5 (.cons (.var 1) .nil)) (.con (.bl true))) 
    (.cons (.ret (.con (.bl false))) .nil) .nil) 
  (.cons (.asg (.nm 3) (.lc (.ix (.call 19 .nil) (.var 4)) (.nm 4) (.of (.call 8 (.cons (.call 6 (.cons (.var 0) (.cons (.con (.int 2)) .nil))) (.cons (.lst (.cons (.con (.int 94)) (.cons (.con (.int 94)) (.cons (.con (.int 94)) .nil)))) (.cons (.con (.int 999999893)) .nil))))) .nil [4])) 
  (.cons (.asg (.nm 3) (.bin .add (.var 3) (.lst (.cons (.ix (.con (.str "abcdefghijklmnopqrstuvwxyz")) (.ix (.call 8 (.cons (.call 6 (.cons (.var 0) (.cons (.con (.int 3)) .nil))) (.cons (.lst (.cons (.con (.int 26)) .nil)) (.cons (.con (.int 999999883)) .nil)))) (.con (.int 0)))) .nil)))) 
  (.cons (.asg (.nm 5) (.lc (.call 20 (.cons (.var 1) (.cons (.ix (.var 2) (.con (.int 0))) (.cons (.var 6) .nil)))) (.nm 6) (.of (.var 3)) .nil [6])) 
  (.cons (.forr (.nm 7) (.of (.bin .add (.var 5) (.call 17 (.cons (.var 1) (.cons (.ix (.var 2) (.con (.int 0))) .nil))))) 
    (.cons (.asg (.nm 8) (.call 5 (.cons (.var 7) .nil))) 
    (.cons (.ifs (.or (.not (.isi (.var 8) [.bool])) (.cmp .ne (.var 8) (.call 16 (.cons (.var 7) .nil)))) 
      (.cons (.ret (.con (.bl false))) .nil) .nil) .nil))) 
  (.cons (.ifs (.cmp .eq (.ix (.var 2) (.con (.int 1))) (.con (.int 0))) 
    (.cons (.asg (.nm 9) (.call 18 (.cons (.con (.int 12)) (.cons (.ix (.var 2) (.con (.int 2))) .nil)))) 
    (.cons (.forr (.nm 4) (.of (.tup (.cons (.con (.int 99)) (.cons (.con (.int 100)) (.cons (.con (.int 101)) .nil))))) 
      (.cons (.ifs (.cmp .ne (.call 5 (.cons (.tup (.cons (.con (.int 12)) (.cons (.sl (.var 9) .nil (.cons (.var 4) .nil)) .nil))) .nil)) (.cmp .lt (.var 4) (.con (.int 101)))) 
        (.cons (.ret (.con (.bl false))) .nil) .nil) .nil)) .nil)) .nil) 
  (.cons (.ret (.cmp .is (.call 5 (.cons (.var 1) .nil)) (.con (.bl true)))) .nil)))))))))
end Sr

set_option Elab.async false
set_option linter.all false
set_option maxRecDepth 100000
set_option autoImplicit false
/-! SrP0: how promises are proved. -/
namespace Sr
open PySem L2
theorem cN_of {T : Nat → Option FDef} {L : Cls} {n f : Nat} {d : FDef} {ds : List D} {h : Hc} {Q : Qv} {X : Qx} (e : T f = some d) (w : wpF (cN T L n) L d ds h Q X) : cN T L (n + 1) f ds h Q X := by
  unfold cN
  rw [e]
  exact w
/-- what stands there is known: no object but a list -/
def Kn (h : Hc) (d : D) : Prop := ∀ a, d = .ref a → ∃ xs, RdL h a xs
theorem Kn.int {h : Hc} {i : Int} : Kn h (.int i) := fun a e => by cases e
theorem Kn.bl {h : Hc} {i : Bool} : Kn h (.bl i) := fun a e => by cases e
theorem Kn.str {h : Hc} {i : Str} : Kn h (.str i) := fun a e => by cases e
theorem Kn.non {h : Hc} : Kn h .non := fun a e => by cases e
theorem Kn.tup {h : Hc} {xs : List D} : Kn h (.tup xs) := fun a e => by cases e
def tyB : D → Ty → Bool
  | .bl _, .int => true
  | .bl _, .bool => true
  | .int _, .int => true
  | .str _, .str => true
  | .tup _, .tuple => true
  | .ref _, .list => true
  | _, _ => false
theorem isTy_iff {h : Hc} {d : D} {t : Ty} {b : Bool} : isTy h d t b ↔ Kn h d ∧ b = tyB d t := by
  cases d with
  | ref a =>
    constructor
    · rintro ⟨xs, e, f⟩
      refine ⟨fun b z => by cases z; exact ⟨xs, e⟩, ?_⟩
      cases t <;> exact f
    · rintro ⟨k, f⟩
      obtain ⟨xs, e⟩ := k a rfl
      refine ⟨xs, e, ?_⟩
      cases t <;> exact f
  | non => cases t <;> simp [isTy, Kn, tyB]
  | bl b => cases t <;> simp [isTy, Kn, tyB]
  | int b => cases t <;> simp [isTy, Kn, tyB]
  | str b => cases t <;> simp [isTy, Kn, tyB]
  | tup b => cases t <;> simp [isTy, Kn, tyB]
theorem tru_bl {h : Hc} {b k : Bool} : Tru h (.bl b) k ↔ k = b := .rfl
theorem tru_int {h : Hc} {i : Int} {k : Bool} : Tru h (.int i) k ↔ k = (i != 0) := .rfl
theorem tru_tup {h : Hc} {xs : List D} {k : Bool} : Tru h (.tup xs) k ↔ k = !xs.isEmpty := .rfl
theorem bl_inj {a b : Bool} : D.bl a = D.bl b ↔ a = b := by constructor <;> intro h <;> first | (cases h; rfl) | rw [h]
/-! ### operations on known values -/
section
variable {h : Hc} {Q : Qv} {i j : Int} {x y : Str} {a b : Bool}
theorem add_int : wpBin .add (.int i) (.int j) h Q = Q (.int (i + j)) h := rfl
theorem sub_int : wpBin .sub (.int i) (.int j) h Q = Q (.int (i - j)) h := rfl
theorem mul_int : wpBin .mul (.int i) (.int j) h Q = (CMul i j ∧ Q (.int (i * j)) h) := rfl
theorem fdiv_int : wpBin .fdiv (.int i) (.int j) h Q = ((0 < j ∧ j < 1073741824) ∧ Q (.int (i / j)) h) := rfl
theorem mod_int : wpBin .mod (.int i) (.int j) h Q = (0 < j ∧ Q (.int (i % j)) h) := rfl
theorem pow_int : wpBin .pow (.int i) (.int j) h Q = ((0 ≤ j ∧ j ≤ 1000000 ∧ i.natAbs < 2 ^ 64) ∧ Q (.int (i ^ j.toNat)) h) := rfl
theorem add_tup {xs ys : List D} : wpBin .add (.tup xs) (.tup ys) h Q = (xs.length + ys.length ≤ sizeLine ∧ Q (.tup (xs ++ ys)) h) := rfl
theorem add_str : wpBin .add (.str x) (.str y) h Q = (x.length + y.length ≤ sizeLine ∧ Q (.str (x ++ y)) h) := rfl
theorem aug_add : wpAug .add (.int i) (.int j) h Q = Q (.int (i + j)) h := rfl
theorem aug_sub : wpAug .sub (.int i) (.int j) h Q = Q (.int (i - j)) h := rfl
theorem pd_int {p : PyData} : PdOf h (.int i) p ↔ p = .int i := ⟨fun e => by cases e; rfl, fun e => by rw [e]; exact .int i⟩
theorem pd_bl {p : PyData} : PdOf h (.bl a) p ↔ p = .bool a := ⟨fun e => by cases e; rfl, fun e => by rw [e]; exact .bl a⟩
theorem pd_str {p : PyData} : PdOf h (.str x) p ↔ p = .str x := ⟨fun e => by cases e; rfl, fun e => by rw [e]; exact .str x⟩
theorem pd_non {p : PyData} : PdOf h .non p ↔ p = .none := ⟨fun e => by cases e; rfl, fun e => by rw [e]; exact .non⟩
theorem eq_int : wpCm .eq (.int i) (.int j) h Q ↔ Q (.bl (i == j)) h :=
  ⟨fun ⟨p, q, e1, e2, _, _, r⟩ => by cases e1; cases e2; exact r, fun r => ⟨_, _, .int i, .int j, rfl, rfl, r⟩⟩
theorem ne_int : wpCm .ne (.int i) (.int j) h Q ↔ Q (.bl (i != j)) h :=
  ⟨fun ⟨p, q, e1, e2, _, _, r⟩ => by cases e1; cases e2; exact r, fun r => ⟨_, _, .int i, .int j, rfl, rfl, r⟩⟩
theorem eqv_bool : PyData.eqv (.bool a) (.bool b) = (a == b) := by cases a <;> cases b <;> rfl
theorem eq_bl : wpCm .eq (.bl a) (.bl b) h Q ↔ Q (.bl (a == b)) h := by
  rw [← eqv_bool]
  exact ⟨fun ⟨p, q, e1, e2, _, _, r⟩ => by cases e1; cases e2; exact r, fun r => ⟨_, _, .bl a, .bl b, rfl, rfl, r⟩⟩
theorem ne_bl : wpCm .ne (.bl a) (.bl b) h Q ↔ Q (.bl (a != b)) h := by
  have e : (a != b) = !PyData.eqv (.bool a) (.bool b) := by rw [eqv_bool]; rfl
  rw [e]
  exact ⟨fun ⟨p, q, e1, e2, _, _, r⟩ => by cases e1; cases e2; exact r, fun r => ⟨_, _, .bl a, .bl b, rfl, rfl, r⟩⟩
theorem shaped_str : SeqAt.shaped (.str x) = PyData.canLay0 (.str x) := by
  have : (PyData.str x).depth ≤ 64 := by simp [PyData.depth]
  unfold SeqAt.shaped
  rw [decide_eq_true this, Bool.and_true]
theorem eq_str : wpCm .eq (.str x) (.str y) h Q ↔ PyData.canLay0 (.str x) = true ∧ PyData.canLay0 (.str y) = true ∧ Q (.bl (x == y)) h :=
  ⟨fun ⟨p, q, e1, e2, e3, e4, r⟩ => by cases e1; cases e2; exact ⟨shaped_str ▸ e3, shaped_str ▸ e4, r⟩, fun ⟨a, b, r⟩ => ⟨_, _, .str x, .str y, shaped_str.trans a, shaped_str.trans b, r⟩⟩
theorem ne_str : wpCm .ne (.str x) (.str y) h Q ↔ PyData.canLay0 (.str x) = true ∧ PyData.canLay0 (.str y) = true ∧ Q (.bl (x != y)) h :=
  ⟨fun ⟨p, q, e1, e2, e3, e4, r⟩ => by cases e1; cases e2; exact ⟨shaped_str ▸ e3, shaped_str ▸ e4, r⟩, fun ⟨a, b, r⟩ => ⟨_, _, .str x, .str y, shaped_str.trans a, shaped_str.trans b, r⟩⟩
theorem int_inj2 {i j : Int} : D.int i = D.int j ↔ i = j := by constructor <;> intro h <;> first | (cases h; rfl) | rw [h]
theorem lt_int : wpCm .lt (.int i) (.int j) h Q ↔ Q (.bl (decide (i < j))) h := by
  simp only [wpCm]
  exact ⟨fun ⟨a, b, e1, e2, q⟩ => by cases e1; cases e2; exact q, fun q => ⟨i, j, rfl, rfl, q⟩⟩
theorem le_int : wpCm .le (.int i) (.int j) h Q ↔ Q (.bl (decide (i ≤ j))) h := by
  simp only [wpCm]
  exact ⟨fun ⟨a, b, e1, e2, q⟩ => by cases e1; cases e2; exact q, fun q => ⟨i, j, rfl, rfl, q⟩⟩
theorem gt_int : wpCm .gt (.int i) (.int j) h Q ↔ Q (.bl (decide (j < i))) h := by
  simp only [wpCm]
  exact ⟨fun ⟨a, b, e1, e2, q⟩ => by cases e1; cases e2; exact q, fun q => ⟨i, j, rfl, rfl, q⟩⟩
theorem ge_int : wpCm .ge (.int i) (.int j) h Q ↔ Q (.bl (decide (j ≤ i))) h := by
  simp only [wpCm]
  exact ⟨fun ⟨a, b, e1, e2, q⟩ => by cases e1; cases e2; exact q, fun q => ⟨i, j, rfl, rfl, q⟩⟩
theorem is_bl : wpCm .is (.bl a) (.bl b) h Q ↔ Q (.bl (decide (a = b))) h := by
  simp only [wpCm]
  exact ⟨fun e => by
    rcases e with ⟨e, _⟩ | ⟨c, d, e1, e2, q⟩
    · cases e
    · cases e1; cases e2; exact q, fun q => .inr ⟨a, b, rfl, rfl, q⟩⟩
theorem isnot_bl : wpCm .isnot (.bl a) (.bl b) h Q ↔ Q (.bl (!decide (a = b))) h := by
  simp only [wpCm]
  exact ⟨fun e => by
    rcases e with ⟨e, _⟩ | ⟨c, d, e1, e2, q⟩
    · cases e
    · cases e1; cases e2; exact q, fun q => .inr ⟨a, b, rfl, rfl, q⟩⟩
theorem len_tup {xs : List D} : Fg Q (.int xs.length) h → wpBi .len [.tup xs] h Q := fun q => ⟨_, rfl, .inr ⟨xs, .inl rfl, q⟩⟩
theorem len_lst {r : Addr} {xs : List D} (e : RdL h r xs) : Fg Q (.int xs.length) h → wpBi .len [.ref r] h Q := fun q => ⟨_, rfl, .inr ⟨xs, .inr ⟨r, rfl, e⟩, q⟩⟩
theorem len_str (e : x.length ≤ sizeLine) : Q (.int x.length) h → wpBi .len [.str x] h Q := fun q => ⟨_, rfl, .inl ⟨x, rfl, e, q⟩⟩
end
/-! ### loops -/
theorem for_ind {chk : Hc → Prop} {g : D → Sg → Hc → (Sg → Hc → Prop) → Prop} {b : (Sg → Hc → Prop) → Sg → Hc → Prop} {nx : Sg → Hc → Prop} (I : List D → Sg → Hc → Prop)
    (hs : ∀ x xs σ h, I (x :: xs) σ h → chk h ∧ ∀ k : Sg → Hc → Prop, (∀ σ' h', I xs σ' h' → k σ' h') → g x σ h fun σ2 h2 => b k σ2 h2) (he : ∀ σ h, I [] σ h → chk h ∧ nx σ h) :
    ∀ xs σ h, I xs σ h → wpFor chk g b nx xs σ h
  | [], σ, h, i => he σ h i
  | x :: xs, σ, h, i => ⟨(hs x xs σ h i).1, (hs x xs σ h i).2 _ fun σ' h' i' => for_ind I hs he xs σ' h' i'⟩
theorem lc_ind {chk : Hc → Prop} {p : Addr} {g : D → Sg → Hc → (Sg → Hc → Prop) → Prop} {t : Sg → Hc → (Bool → Hc → Prop) → Prop} {e : Sg → Hc → Qv → Prop} {own : List Nat} {σ : Sg} {Q : Qv} (I : List D → List D → Hc → Prop)
    (hs : ∀ x xs acc h, I (x :: xs) acc h → chk h ∧ ∀ k : Hc → Prop, (∀ acc' h', I xs acc' h' → h' p = some (.lst acc') → k h') → h p = some (.lst acc) → g x (wip σ own) h fun σ2 h2 => wip σ2 own = wip σ own ∧ t σ2 h2 fun b h3 =>
      if b = true then e σ2 h3 fun y h4 => ∃ acc, h4 p = some (.lst acc) ∧ acc.length < sizeLine ∧ k (hset h4 p (.lst (acc ++ [y]))) else k h3)
    (he : ∀ acc h, I [] acc h → h p = some (.lst acc) → chk h ∧ Q (.ref p) h) :
    ∀ xs acc h, I xs acc h → h p = some (.lst acc) → wpLc chk p g t e own σ Q xs h
  | [], acc, h, i, hp => he acc h i hp
  | x :: xs, acc, h, i, hp => ⟨(hs x xs acc h i).1, (hs x xs acc h i).2 _ (fun acc' h' i' hp' => lc_ind I hs he xs acc' h' i' hp') hp⟩
/-- the words that are opened -/
local macro_rules | `(tactic| trivial) => `(tactic| simp only [wpSs, wpS, wpE, wpEs, wpT, wpCs, wpTg, wpTgs, wpIt, wpIsi, wip, begn, List.map_cons, List.map_nil, List.length_cons, List.length_nil, List.replicate, List.nil_append, List.cons_append, List.append_nil, List.getElem?_cons_zero, List.getElem?_cons_succ, List.set_cons_zero, List.set_cons_succ,
  Option.some.injEq, exists_eq_left', exists_eq_left, Nat.sub_self, Nat.reduceSub, Nat.reduceAdd, exists_and_left, ↓reduceIte, Bool.not_true, Bool.not_false, Bool.false_eq_true, isTy_iff, tru_bl, tru_int, tru_tup, and_assoc, bl_inj, add_int, sub_int, mul_int, fdiv_int, mod_int, pow_int, add_tup, add_str, aug_add, aug_sub, eq_int, ne_int, eq_bl, ne_bl, eq_str, ne_str, lt_int, le_int, gt_int, ge_int, is_bl, isnot_bl])
end Sr

set_option Elab.async false
set_option linter.all false
set_option maxRecDepth 100000
set_option autoImplicit false
/-! SrP1: the promises of the houses' defs. -/
namespace Sr
open PySem L2
/-- the words that are opened -/
local macro_rules | `(tactic| trivial) => `(tactic| simp only [wpSs, wpS, wpE, wpEs, wpT, wpCs, wpTg, wpTgs, wpIt, wpIsi, wip, begn, List.map_cons, List.map_nil, List.length_cons, List.length_nil, List.replicate, List.nil_append, List.cons_append, List.append_nil, List.getElem?_cons_zero, List.getElem?_cons_succ, List.set_cons_zero, List.set_cons_succ,
  Option.some.injEq, exists_eq_left', exists_eq_left, Nat.sub_self, Nat.reduceSub, Nat.reduceAdd, exists_and_left, ↓reduceIte, Bool.not_true, Bool.not_false, Bool.false_eq_true, isTy_iff, tru_bl, tru_int, tru_tup, and_assoc, bl_inj, add_int, sub_int, mul_int, fdiv_int, mod_int, pow_int, add_tup, add_str, aug_add, aug_sub, eq_int, ne_int, eq_bl, ne_bl, eq_str, ne_str, lt_int, le_int, gt_int, ge_int, is_bl, isnot_bl])
def isWhole : D → Bool
  | .int _ => true
  | _ => false
theorem whole_int {d : D} (h : isWhole d = true) : ∃ i, d = .int i := by cases d <;> first | exact ⟨_, rfl⟩ | cases h
def P1 (C : Nat → Fn) (i : Nat) : Prop := ∀ d h Q X, Kn h d → Q (.bl (isWhole d)) h → C i [d] h Q X
theorem ok_whole {C : Nat → Fn} {L : Cls} {d : D} {h : Hc} {Q : Qv} {X : Qx} (k : Kn h d) (q : Q (.bl (isWhole d)) h) : wpF C L ⟨1, 1, m_whole_number⟩ [d] h Q X := by
  refine ⟨rfl, ?_⟩
  unfold m_whole_number
  trivial
  refine ⟨k, ?_⟩
  cases d <;> first | exact .here q | exact ⟨k, .here q⟩
def isRoom (d : D) (m : Int) : Bool := match d with
  | .int i => decide (0 ≤ i) && decide (i < m)
  | _ => false
def P2 (C : Nat → Fn) (i : Nat) : Prop := ∀ d m h Q X, Kn h d → Q (.bl (isRoom d m)) h → C i [d, .int m] h Q X
theorem ok_room {C : Nat → Fn} {L : Cls} (p1 : P1 C 1) {d : D} {m : Int} {h : Hc} {Q : Qv} {X : Qx} (k : Kn h d) (q : Q (.bl (isRoom d m)) h) : wpF C L ⟨2, 2, m_room_of⟩ [d, .int m] h Q X := by
  refine ⟨rfl, ?_⟩
  unfold m_room_of
  trivial
  refine p1 d h _ _ k ?_
  trivial
  by_cases e : isWhole d = true
  · obtain ⟨i, rfl⟩ := whole_int e
    rw [if_pos e]
    trivial
    have q : Q (.bl (decide (0 ≤ i) && decide (i < m))) h := q
    by_cases e2 : 0 ≤ i
    · rw [if_pos (decide_eq_true e2)]
      rw [decide_eq_true e2, Bool.true_and] at q
      exact .here q
    · rw [if_neg (by simpa using e2)]
      rw [decide_eq_false e2, Bool.false_and] at q
      exact .here q
  · rw [if_neg e]
    have : isRoom d m = isWhole d := by cases d <;> first | rfl | exact absurd rfl e
    rw [this] at q
    exact .here q
def letters : Str := "abcdefghijklmnopqrstuvwxyz"
def signS (x : Str) : Bool := decide (x.length = 1) && decide (x.cps.getD 0 0 ∈ letters.cps.toList)
def isSign : D → Bool
  | .str x => signS x
  | _ => false
/-- no text that is too long -/
def Sd : D → Prop
  | .str x => x.length ≤ sizeLine
  | _ => True
def P3 (C : Nat → Fn) (i : Nat) : Prop := ∀ d h Q X, Kn h d → Sd d → Q (.bl (isSign d)) h → C i [d] h Q X
theorem str_one {x : Str} (h : x.length = 1) : ∃ c, x = ⟨#[c]⟩ := by
  obtain ⟨⟨l⟩⟩ := x
  match l, h with
  | [c], _ => exact ⟨c, rfl⟩
theorem ok_sign {C : Nat → Fn} {L : Cls} {d : D} {h : Hc} {Q : Qv} {X : Qx} (k : Kn h d) (sd : Sd d) (q : Q (.bl (isSign d)) h) : wpF C L ⟨1, 1, m_sign_of_way⟩ [d] h Q X := by
  refine ⟨rfl, ?_⟩
  unfold m_sign_of_way
  trivial
  refine ⟨k, ?_⟩
  cases d with
  | str x =>
    show if true = true then _ else _
    rw [if_pos rfl]
    refine len_str sd ?_
    trivial
    have q : Q (.bl (signS x)) h := q
    unfold signS at q
    by_cases e : x.length = 1
    · obtain ⟨c, rfl⟩ := str_one e
      have e2 : (((⟨#[c]⟩ : Str).length : Int) == 1) = true := by rw [e]; rfl
      rw [if_pos e2]
      rw [decide_eq_true e, Bool.true_and] at q
      exact ⟨_, ⟨c, rfl, rfl⟩, .here q⟩
    · have e2 : ((x.length : Int) == 1) = false := by simpa using fun z : (x.length : Int) = 1 => e (by omega)
      rw [e2, if_neg (by decide)]
      rw [decide_eq_false e, Bool.false_and] at q
      exact .here q
  | _ => exact .here q
end Sr

set_option Elab.async false
set_option linter.all false
set_option maxRecDepth 100000
set_option autoImplicit false
set_option maxHeartbeats 1000000
/-! SrP2: a way -/
namespace Sr
open PySem L2
/-- the words that are opened -/
local macro_rules | `(tactic| trivial) => `(tactic| simp only [wpSs, wpS, wpE, wpEs, wpT, wpCs, wpTg, wpTgs, wpIt, wpIsi, wip, begn, List.map_cons, List.map_nil, List.length_cons, List.length_nil, List.replicate, List.nil_append, List.cons_append, List.append_nil, List.getElem?_cons_zero, List.getElem?_cons_succ, List.set_cons_zero, List.set_cons_succ,
  Option.some.injEq, exists_eq_left', exists_eq_left, Nat.sub_self, Nat.reduceSub, Nat.reduceAdd, exists_and_left, ↓reduceIte, Bool.not_true, Bool.not_false, Bool.false_eq_true, isTy_iff, tru_bl, tru_int, tru_tup, and_assoc, bl_inj, add_int, sub_int, mul_int, fdiv_int, mod_int, pow_int, add_tup, add_str, aug_add, aug_sub, eq_int, ne_int, eq_bl, ne_bl, eq_str, ne_str, lt_int, le_int, gt_int, ge_int, is_bl, isnot_bl])
/-! ### good values: lists that are known, texts that are not too long -/
mutual
def Gd (h : Hc) : D → Prop
  | .ref a => ∃ xs, RdL h a xs
  | .str x => x.length ≤ sizeLine
  | .tup xs => Gds h xs
  | .non => True
  | .bl _ => True
  | .int _ => True
def Gds (h : Hc) : List D → Prop
  | [] => True
  | x :: xs => Gd h x ∧ Gds h xs
end
theorem Gd.kn {h : Hc} {d : D} (g : Gd h d) : Kn h d := fun a e => by subst e; exact g
theorem Gd.sd {h : Hc} {d : D} (g : Gd h d) : Sd d := by cases d <;> first | exact g | trivial
theorem RdL.sub {h h' : Hc} {a : Addr} {xs : List D} (s : Sub h h') (r : RdL h a xs) : RdL h' a xs := r.elim (fun e => .inl (s _ _ e)) fun e => .inr (s _ _ e)
mutual
theorem Gd.sub {h h' : Hc} (s : Sub h h') : ∀ {d : D}, Gd h d → Gd h' d
  | .ref a, ⟨xs, e⟩ => ⟨xs, e.sub s⟩
  | .str x, g => g
  | .tup xs, g => Gds.sub s (ds := xs) g
  | .non, _ => True.intro
  | .bl _, _ => True.intro
  | .int _, _ => True.intro
theorem Gds.sub {h h' : Hc} (s : Sub h h') : ∀ {ds : List D}, Gds h ds → Gds h' ds
  | [], _ => True.intro
  | x :: xs, g => ⟨Gd.sub s g.1, Gds.sub s g.2⟩
end
theorem Gds.get {h : Hc} : ∀ {ds : List D} {x : D}, Gds h ds → x ∈ ds → Gd h x
  | y :: ds, x, g, m => by
    rcases List.mem_cons.mp m with e | e
    · rw [e]; exact g.1
    · exact Gds.get g.2 e
theorem Gds.of {h : Hc} : ∀ {ds : List D}, (∀ x ∈ ds, Gd h x) → Gds h ds
  | [], _ => True.intro
  | x :: ds, g => ⟨g x (List.mem_cons.mpr (.inl rfl)), Gds.of fun y m => g y (List.mem_cons.mpr (.inr m))⟩
theorem Gds.app {h : Hc} {xs ys : List D} (a : Gds h xs) (b : Gds h ys) : Gds h (xs ++ ys) := Gds.of fun x m => (List.mem_append.mp m).elim (fun z => a.get z) fun z => b.get z
theorem walk_tup {R : Rw} {xs : List D} {h : Hc} : walkD R (.tup xs) h = R xs (fun _ => True) h := rfl
/-! ### a way -/
def raises : List (D × D) := [((.str "up"), (.int 1)), ((.str "down"), (.int (-1))), ((.str "stay"), (.int 0)), ((.str "zero"), (.int 0))]
def isDeed : D → Bool
  | .str x => (dval raises (.one (.inr x))).isSome
  | _ => false
def isWay (d : D) (m : Int) : Bool := match d with
  | .tup [r, e, o, s] => isRoom r m && isRoom o m && isSign s && isDeed e
  | _ => false
def P4 (C : Nat → Fn) (i : Nat) : Prop := ∀ d m h Q X, Gd h d → Q (.bl (isWay d m)) h → C i [d, .int m] h Q X
theorem way_no {d : D} {m : Int} (h : tyB d .tuple = false) : isWay d m = false := by cases d <;> first | rfl | cases h
theorem way_len {xs : List D} {m : Int} (h : xs.length ≠ 4) : isWay (.tup xs) m = false := by
  match xs, h with
  | [], _ => rfl
  | [_], _ => rfl
  | [_, _], _ => rfl
  | [_, _, _], _ => rfl
  | [_, _, _, _], h => exact absurd rfl h
  | _ :: _ :: _ :: _ :: _ :: _, _ => rfl
theorem ok_way {C : Nat → Fn} {L : Cls} (p2 : P2 C 2) (p3 : P3 C 3) {d : D} {m : Int} {h : Hc} {Q : Qv} {X : Qx} (g : Gd h d) (q : Q (.bl (isWay d m)) h) : wpF C L ⟨2, 6, m_way_of⟩ [d, .int m] h Q X := by
  refine ⟨rfl, ?_⟩
  unfold m_way_of
  trivial
  refine ⟨g.kn, ?_⟩
  cases d with
  | tup xs =>
    show if (!true) = true then _ else _
    rw [if_neg (by decide)]
    refine len_tup (.here ?_)
    trivial
    by_cases e : xs.length = 4
    · have e2 : ((xs.length : Int) != 4) = false := by rw [e]; rfl
      rw [e2, if_neg (by decide)]
      refine ⟨xs, .inl rfl, e, ?_⟩
      match xs, e, g with
      | [r, dd, o, s], _, g =>
        obtain ⟨g1, g2, g3, g4, _⟩ := g
        refine ⟨r, _, rfl, dd, _, rfl, o, _, rfl, s, [], rfl, rfl, ?_⟩
        have q : Q (.bl (isRoom r m && isRoom o m && isSign s && isDeed dd)) h := q
        refine p2 r m h _ _ g1.kn ?_
        trivial
        cases e1 : isRoom r m with
        | false => rw [e1] at q; exact .here q
        | true =>
          rw [if_neg (by decide)]
          refine p2 o m h _ _ g3.kn ?_
          trivial
          cases e2 : isRoom o m with
          | false => rw [e1, e2] at q; exact .here q
          | true =>
            rw [if_neg (by decide)]
            refine p3 s h _ _ g4.kn g4.sd ?_
            trivial
            cases e3 : isSign s with
            | false => rw [e1, e2, e3] at q; exact .here q
            | true =>
              rw [if_neg (by decide)]
              rw [e1, e2, e3] at q
              refine ⟨g2.kn, ?_⟩
              cases dd with
              | str x => exact ⟨x, rfl, .here q⟩
              | _ => exact .here q
    · have e2 : ((xs.length : Int) != 4) = true := by simpa using fun z : (xs.length : Int) = 4 => e (by omega)
      rw [e2, if_pos rfl]
      rw [way_len e] at q
      exact .here q
  | _ => exact .here q
end Sr

set_option Elab.async false
set_option linter.all false
set_option maxRecDepth 100000
set_option autoImplicit false
set_option maxHeartbeats 1000000
/-! SrP3: a house -/
namespace Sr
open PySem L2
/-- the words that are opened -/
local macro_rules | `(tactic| trivial) => `(tactic| simp only [wpSs, wpS, wpE, wpEs, wpT, wpCs, wpTg, wpTgs, wpIt, wpIsi, wip, begn, List.map_cons, List.map_nil, List.length_cons, List.length_nil, List.replicate, List.nil_append, List.cons_append, List.append_nil, List.getElem?_cons_zero, List.getElem?_cons_succ, List.set_cons_zero, List.set_cons_succ,
  Option.some.injEq, exists_eq_left', exists_eq_left, Nat.sub_self, Nat.reduceSub, Nat.reduceAdd, exists_and_left, ↓reduceIte, Bool.not_true, Bool.not_false, Bool.false_eq_true, isTy_iff, tru_bl, tru_int, tru_tup, and_assoc, bl_inj, add_int, sub_int, mul_int, fdiv_int, mod_int, pow_int, add_tup, add_str, aug_add, aug_sub, eq_int, ne_int, eq_bl, ne_bl, eq_str, ne_str, lt_int, le_int, gt_int, ge_int, is_bl, isnot_bl])
/-! ### lists without twice -/
theorem pig {α : Type} [DecidableEq α] : ∀ (l E : List α), l.Nodup → (∀ x ∈ l, x ∈ E) → l.length ≤ E.length
  | [], _, _, _ => Nat.zero_le _
  | x :: l, E, nd, hs => by
    obtain ⟨h1, h2⟩ := List.nodup_cons.mp nd
    have hx : x ∈ E := hs x (List.mem_cons.mpr (.inl rfl))
    have ih := pig l (E.erase x) h2 fun y hy => (List.mem_erase_of_ne (fun (e : y = x) => h1 (by rw [← e]; exact hy))).2 (hs y (List.mem_cons.mpr (.inr hy)))
    rw [List.length_erase_of_mem hx] at ih
    have := List.length_pos_of_mem hx
    rw [List.length_cons]
    omega
theorem less_of_dup {α : Type} [DecidableEq α] : ∀ (E : List α), ¬ E.Nodup → ∃ E' : List α, E'.length < E.length ∧ ∀ x ∈ E, x ∈ E'
  | [], h => absurd List.nodup_nil h
  | x :: E, h => by
    by_cases m : x ∈ E
    · refine ⟨E, by simp, fun y hy => ?_⟩
      rcases List.mem_cons.mp hy with e | e
      · rw [e]; exact m
      · exact e
    · obtain ⟨E', h1, h2⟩ := less_of_dup E fun nd => h (List.nodup_cons.mpr ⟨m, nd⟩)
      refine ⟨x :: E', by simpa using h1, fun y hy => ?_⟩
      rcases List.mem_cons.mp hy with e | e
      · exact List.mem_cons.mpr (.inl e)
      · exact List.mem_cons.mpr (.inr (h2 y e))
theorem set_len {α : Type} [DecidableEq α] {l E : List α} (nd : l.Nodup) (m : ∀ k, k ∈ l ↔ k ∈ E) : ((l.length : Int) == (E.length : Int)) = decide E.Nodup := by
  by_cases h : E.Nodup
  · have : l.length = E.length := Nat.le_antisymm (pig l E nd fun x hx => (m x).mp hx) (pig E l h fun x hx => (m x).mpr hx)
    rw [this, decide_eq_true h]
    exact beq_self_eq_true _
  · obtain ⟨E', h1, h2⟩ := less_of_dup E h
    have := pig l E' nd fun x hx => h2 x ((m x).mp hx)
    rw [decide_eq_false h]
    exact beq_eq_false_iff_ne.mpr (by omega)
/-! ### a house -/
def kT : D → Option (List Key)
  | .tup xs => keysOf xs
  | _ => none
theorem kT_keyT : ∀ k : List Key, kT (keyT k) = some k := fun k => by
  show keysOf (k.map keyD) = some k
  induction k with
  | nil => rfl
  | cons c k ih =>
    rw [List.map_cons]
    unfold keysOf
    rw [ih]
    cases c <;> rfl
theorem way_key {d : D} {m : Int} (h : isWay d m = true) : ∃ k, d = keyT k := by
  unfold isWay at h
  split at h
  · rename_i r e o s
    simp only [Bool.and_eq_true] at h
    obtain ⟨⟨⟨h1, h2⟩, h3⟩, h4⟩ := h
    cases r <;> first | exact nomatch (show false = true from h1) | skip
    cases o <;> first | exact nomatch (show false = true from h2) | skip
    cases s <;> first | exact nomatch (show false = true from h3) | skip
    cases e <;> first | exact nomatch (show false = true from h4) | skip
    rename_i i j x y
    exact ⟨[.inl i, .inr y, .inl j, .inr x], rfl⟩
  · cases h
theorem ways_keys {m : Int} : ∀ {ws : List D}, ws.all (isWay · m) = true → ∃ kss, ws = kss.map keyT ∧ ws.filterMap kT = kss
  | [], _ => ⟨[], rfl, rfl⟩
  | w :: ws, h => by
    rw [List.all_cons, Bool.and_eq_true] at h
    obtain ⟨k, rfl⟩ := way_key h.1
    obtain ⟨kss, rfl, e⟩ := ways_keys h.2
    exact ⟨k :: kss, rfl, by rw [List.filterMap_cons_some (kT_keyT k), e]⟩
def isHouse (d : D) : Bool := match d with
  | .tup [.int m, .tup ws] => decide (1 ≤ m) && decide (m ≤ 12) && decide (ws.length ≤ 100) && ws.all (isWay · m) && decide (ws.filterMap kT).Nodup
  | _ => false
theorem house_no {d : D} (h : tyB d .tuple = false) : isHouse d = false := by cases d <;> first | rfl | cases h
theorem house_len {xs : List D} (h : xs.length ≠ 2) : isHouse (.tup xs) = false := by
  match xs, h with
  | [], _ => rfl
  | [x], _ => cases x <;> rfl
  | [_, _], h => exact absurd rfl h
  | x :: y :: _ :: _, _ => cases x <;> first | rfl | (cases y <;> rfl)
def P5 (C : Nat → Fn) (i : Nat) : Prop := ∀ d h Q X, Gd h d → Q (.bl (isHouse d)) h → C i [d] h Q X
theorem Sub.put {h h' : Hc} {p : Addr} {o : MO} (s : Sub h h') (n : h p = none) : Sub h (hset h' p o) := fun a u e => by
  have : a ≠ p := fun z => by rw [z, n] at e; cases e
  rw [hset_ne this]
  exact s a u e
theorem line_ge : 1000000 ≤ sizeLine := by rw [sizeLine_eq]; decide
theorem Fg.to {Q : Qv} {d : D} {h h' : Hc} (s : Sub h h') (q : Q d h) : Fg Q d h' := ⟨h, s, q⟩
theorem ok_is_house {C : Nat → Fn} {L : Cls} (p1 : P1 C 1) (p4 : P4 C 4) {d : D} {h : Hc} {Q : Qv} {X : Qx} (g : Gd h d) (q : Q (.bl (isHouse d)) h) : wpF C L ⟨1, 4, m_is_house⟩ [d] h Q X := by
  refine ⟨rfl, ?_⟩
  unfold m_is_house
  trivial
  refine ⟨g.kn, ?_⟩
  cases d with
  | tup xs =>
    show if (!true) = true then _ else _
    rw [if_neg (by decide)]
    refine len_tup (.here ?_)
    trivial
    by_cases e : xs.length = 2
    · have e2 : ((xs.length : Int) != 2) = false := by rw [e]; rfl
      rw [e2, if_neg (by decide)]
      refine ⟨xs, .inl rfl, e, ?_⟩
      match xs, e, g with
      | [a, b], _, g =>
        obtain ⟨g1, g2, _⟩ := g
        refine ⟨a, _, rfl, b, [], rfl, rfl, ?_⟩
        refine p1 a h _ _ g1.kn ?_
        trivial
        cases a with
        | int m =>
          show if (!true) = true then _ else _
          rw [if_neg (by decide)]
          trivial
          by_cases m1 : m < 1
          · rw [decide_eq_true m1, if_pos rfl]
            have : isHouse (.tup [.int m, b]) = false := by
              unfold isHouse
              split
              · rename_i e3
                cases e3
                rw [decide_eq_false (by omega)]; rfl
              · rfl
            rw [this] at q
            exact .here q
          · rw [decide_eq_false m1, if_neg (by decide)]
            by_cases m2 : 12 < m
            · rw [decide_eq_true m2, if_pos rfl]
              have : isHouse (.tup [.int m, b]) = false := by
                unfold isHouse
                split
                · rename_i e3
                  cases e3
                  rw [decide_eq_true (by omega : 1 ≤ m), decide_eq_false (by omega : ¬ m ≤ 12)]; rfl
                · rfl
              rw [this] at q
              exact .here q
            · rw [decide_eq_false m2, if_neg (by decide)]
              refine ⟨g2.kn, ?_⟩
              cases b with
              | tup ws =>
                show if (!true) = true then _ else _
                rw [if_neg (by decide)]
                refine len_tup (.here ?_)
                trivial
                have q : Q (.bl (decide (1 ≤ m) && decide (m ≤ 12) && decide (ws.length ≤ 100) && ws.all (isWay · m) && decide (ws.filterMap kT).Nodup)) h := q
                rw [decide_eq_true (by omega : 1 ≤ m), decide_eq_true (by omega : m ≤ 12), Bool.true_and, Bool.true_and] at q
                by_cases c : ws.length ≤ 100
                · rw [decide_eq_true c, Bool.true_and] at q
                  rw [decide_eq_false (by omega), if_neg (by decide)]
                  rw [walk_tup]
                  intro p np
                  have line := line_ge
                  refine lc_ind (fun rest acc h' => Sub h h' ∧ ∃ dn, ws = dn ++ rest ∧ acc = dn.map fun w => D.bl (isWay w m)) (fun x rest acc h' i => ⟨True.intro, fun k hk hp => ?_⟩) (fun acc h' i hp => ?_) ws [] _ ⟨(Sub.refl h).put np, [], rfl, rfl⟩ hset_same
                  · obtain ⟨sb, dn, e3, e4⟩ := i
                    trivial
                    refine ⟨True.intro, ?_⟩
                    have gx : Gd h x := Gds.get g2 (by rw [e3]; exact List.mem_append.mpr (.inr (List.mem_cons.mpr (.inl rfl))))
                    refine p4 x m h' _ _ (gx.sub sb) ⟨acc, hp, ?_, hk _ _ ⟨sb.put np, dn ++ [x], by rw [e3]; simp, by rw [e4]; simp⟩ hset_same⟩
                    have := congrArg List.length e3
                    rw [List.length_append] at this
                    rw [e4, List.length_map]
                    omega
                  · obtain ⟨sb, dn, e3, e4⟩ := i
                    refine ⟨True.intro, ?_⟩
                    rw [List.append_nil] at e3
                    subst e3
                    refine ⟨p, ws.map fun w => isWay w m, rfl, .inl (by rw [hp, e4, List.map_map]; rfl), .here ⟨_, rfl, ?_⟩⟩
                    have ea : (ws.map fun w => isWay w m).all id = ws.all (isWay · m) := by rw [List.all_map]; rfl
                    rw [ea]
                    cases al : ws.all (isWay · m) with
                    | false => rw [al] at q; exact .to sb q
                    | true =>
                      rw [al] at q
                      rw [if_neg (by decide)]
                      obtain ⟨kss, e5, e6⟩ := ways_keys al
                      rw [e6] at q
                      have lk : ws.length = kss.length := by rw [e5, List.length_map]
                      refine ⟨_, ws, kss, rfl, .inl rfl, e5, by omega, fun l nd mem => .here ?_⟩
                      refine len_tup (.here ?_)
                      trivial
                      rw [lk, set_len nd mem]
                      exact .to sb q
                · rw [decide_eq_false c] at q
                  rw [decide_eq_true (by omega), if_pos rfl]
                  exact .here q
              | _ => exact .here q
        | _ => exact .here q
    · have e2 : ((xs.length : Int) != 2) = true := by simpa using fun z : (xs.length : Int) = 2 => e (by omega)
      rw [e2, if_pos rfl]
      rw [house_len e] at q
      exact .here q
  | _ => exact .here q
end Sr

set_option Elab.async false
set_option linter.all false
set_option maxRecDepth 100000
set_option autoImplicit false
set_option maxHeartbeats 1000000
/-! SrP4: the law's numbers -/
namespace Sr
open PySem L2
/-- the words that are opened -/
local macro_rules | `(tactic| trivial) => `(tactic| simp only [wpSs, wpS, wpE, wpEs, wpT, wpCs, wpTg, wpTgs, wpIt, wpIsi, wip, begn, List.map_cons, List.map_nil, List.length_cons, List.length_nil, List.replicate, List.nil_append, List.cons_append, List.append_nil, List.getElem?_cons_zero, List.getElem?_cons_succ, List.set_cons_zero, List.set_cons_succ,
  Option.some.injEq, exists_eq_left', exists_eq_left, Nat.sub_self, Nat.reduceSub, Nat.reduceAdd, exists_and_left, ↓reduceIte, Bool.not_true, Bool.not_false, Bool.false_eq_true, isTy_iff, tru_bl, tru_int, tru_tup, and_assoc, bl_inj, add_int, sub_int, mul_int, fdiv_int, mod_int, pow_int, add_tup, add_str, aug_add, aug_sub, eq_int, ne_int, eq_bl, ne_bl, eq_str, ne_str, lt_int, le_int, gt_int, ge_int, is_bl, isnot_bl])
section
variable {h : Hc} {Q : Qv} {a : Addr} {k : Int} {v : D}
theorem ix_lst {xs : List D} (r : RdL h a xs) (e : atI xs k = some v) (q : Q v h) : wpIx (.ref a) (.int k) h Q := .inl ⟨xs, k, v, r, rfl, e, q⟩
theorem ix_tup {xs : List D} (e : atI xs k = some v) (q : Q v h) : wpIx (.tup xs) (.int k) h Q := ⟨k, v, rfl, e, q⟩
theorem at_of {xs : List D} (h0 : 0 ≤ k) (e : xs[k.toNat]? = some v) : atI xs k = some v := by
  have := atI_nat e
  rwa [Int.toNat_of_nonneg h0] at this
theorem ix_ints {ns : List Int} (r : RdL h a (ns.map D.int)) (h0 : 0 ≤ k) (h1 : k < ns.length) (q : ∀ i, ns[k.toNat]? = some i → Q (.int i) h) : wpIx (.ref a) (.int k) h Q := by
  have lt : k.toNat < ns.length := by omega
  refine ix_lst r (at_of h0 (v := .int ns[k.toNat]) ?_) (q _ (List.getElem?_eq_getElem lt))
  rw [List.getElem?_map, List.getElem?_eq_getElem lt]; rfl
end
/-! ### the law's numbers -/
def P6 (C : Nat → Fn) (i : Nat) : Prop := ∀ (a : Addr) (ns : List Int) (k : Int) (h : Hc) (Q : Qv) (X : Qx), RdL h a (ns.map D.int) → 0 ≤ k → k < 1000 → (∀ i, Q (.int i) h) → C i [.ref a, .int k] h Q X
theorem ok_cell {C : Nat → Fn} {L : Cls} {a : Addr} {ns : List Int} {k : Int} {h : Hc} {Q : Qv} {X : Qx} (r : RdL h a (ns.map D.int)) (k0 : 0 ≤ k) (k1 : k < 1000) (q : ∀ i, Q (.int i) h) : wpF C L ⟨2, 2, m_law_cell⟩ [.ref a, .int k] h Q X := by
  refine ⟨rfl, ?_⟩
  unfold m_law_cell
  trivial
  refine len_lst r (.here ?_)
  trivial
  rw [List.length_map]
  have cm : ∀ i : Int, CMul 7919 i := fun i => .inl (by omega)
  have cm2 : ∀ i : Int, CMul 104729 i := fun i => .inl (by omega)
  by_cases e : (ns.length : Int) = 0
  · rw [beq_iff_eq.mpr e, if_pos rfl]
    exact ⟨cm _, .here (q _)⟩
  · rw [beq_eq_false_iff_ne.mpr e, if_neg (by decide)]
    refine len_lst r (.here ?_)
    trivial
    rw [List.length_map]
    by_cases e2 : k < ns.length
    · rw [decide_eq_true e2, if_pos rfl]
      exact ix_ints r k0 e2 fun i _ => .here (q i)
    · rw [decide_eq_false e2, if_neg (by decide)]
      refine len_lst r (.here ?_)
      trivial
      rw [List.length_map]
      have p0 : (0 : Int) < ns.length := by omega
      refine ⟨p0, ix_ints r (Int.emod_nonneg _ (by omega)) (Int.emod_lt_of_pos _ p0) fun i _ => ?_⟩
      trivial
      exact ⟨cm2 _, .here (q _)⟩
def P7 (C : Nat → Fn) (i : Nat) : Prop := ∀ (c k p : Int) (h : Hc) (Q : Qv) (X : Qx), 0 ≤ k → k < 1000000 → 0 < p → (∀ i, 0 ≤ i → i < p → Q (.int i) h) → C i [.int c, .int k, .int p] h Q X
theorem ok_mixed {C : Nat → Fn} {L : Cls} {c k p : Int} {h : Hc} {Q : Qv} {X : Qx} (k0 : 0 ≤ k) (k1 : k < 1000000) (p0 : 0 < p) (q : ∀ i, 0 ≤ i → i < p → Q (.int i) h) : wpF C L ⟨3, 4, m_law_mixed⟩ [.int c, .int k, .int p] h Q X := by
  refine ⟨rfl, ?_⟩
  unfold m_law_mixed
  trivial
  refine ⟨.inl (by omega), .inl (by omega), .inl (by omega), .inr (by omega), by omega, .inl ?_, by omega, .inl ?_, p0, .here (q _ (Int.emod_nonneg _ (by omega)) (Int.emod_lt_of_pos _ p0))⟩
  · generalize (c + 7 * k * k + 13 * k + 5) * 48271 = z
    omega
  · generalize (c + 7 * k * k + 13 * k + 5) * 48271 = z
    generalize z % 2147483647 * (z % 2147483647) = y
    omega
theorem ten18 : (10 : Int) ^ (18 : Int).toNat = 1000000000000000000 := rfl
def P9 (C : Nat → Fn) (i : Nat) : Prop := ∀ (c w : Int) (h : Hc) (Q : Qv) (X : Qx), 0 < w → w < 1073741824 → (∀ i, Q (.int i) h) → C i [.int c, .int w] h Q X
theorem ok_spare {C : Nat → Fn} {L : Cls} {c w : Int} {h : Hc} {Q : Qv} {X : Qx} (w0 : 0 < w) (w1 : w < 1073741824) (q : ∀ i, Q (.int i) h) : wpF C L ⟨2, 2, m_law_spare⟩ [.int c, .int w] h Q X := by
  refine ⟨rfl, ?_⟩
  unfold m_law_spare
  trivial
  refine ⟨by decide, by decide, by decide, ?_⟩
  by_cases e : (10 : Int) ^ (18 : Int).toNat ≤ c
  · rw [decide_eq_true e, if_pos rfl]
    exact ⟨by decide, by decide, by decide, w0, w1, by decide, by decide, by decide, .here (q _)⟩
  · rw [decide_eq_false e, if_neg (by decide)]
    exact .here (q _)
/-- drawn numbers, each below its width -/
def Drawn (ws vs : List Int) : Prop := vs.length = ws.length ∧ ∀ (i : Nat) (v w : Int), vs[i]? = some v → ws[i]? = some w → 0 ≤ v ∧ v < w
def Wid (ws : List Int) : Prop := ∀ w ∈ ws, 0 < w ∧ w < 1073741824
def P8 (C : Nat → Fn) (i : Nat) : Prop := ∀ (c p : Int) (b : Addr) (ws : List Int) (h : Hc) (Q : Qv) (X : Qx), RdL h b (ws.map D.int) → Wid ws → ws.length < 100000 → 0 < p → (∀ r vs, h r = none → Drawn ws vs → Q (.ref r) (hset h r (.lst (vs.map D.int)))) → C i [.int c, .ref b, .int p] h Q X
theorem mt_append {h : Hc} {Q : Qv} {r : Addr} {ys : List D} {y : D} (e : h r = some (.lst ys)) (l : ys.length < sizeLine) (q : Q .non (hset h r (.lst (ys ++ [y])))) : (∃ a ys, D.ref r = .ref a ∧ RdL h a ys) ∧ wpMt .append (.ref r) [y] h Q :=
  ⟨⟨r, ys, rfl, .inl e⟩, r, ys, y, rfl, rfl, e, l, q⟩
end Sr

set_option Elab.async false
set_option linter.all false
set_option maxRecDepth 100000
set_option autoImplicit false
set_option maxHeartbeats 1000000
/-! SrP5: draws -/
namespace Sr
open PySem L2
/-- the words that are opened -/
local macro_rules | `(tactic| trivial) => `(tactic| simp only [wpSs, wpS, wpE, wpEs, wpT, wpCs, wpTg, wpTgs, wpIt, wpIsi, wip, begn, List.map_cons, List.map_nil, List.length_cons, List.length_nil, List.replicate, List.nil_append, List.cons_append, List.append_nil, List.getElem?_cons_zero, List.getElem?_cons_succ, List.set_cons_zero, List.set_cons_succ,
  Option.some.injEq, exists_eq_left', exists_eq_left, Nat.sub_self, Nat.reduceSub, Nat.reduceAdd, exists_and_left, ↓reduceIte, Bool.not_true, Bool.not_false, Bool.false_eq_true, isTy_iff, tru_bl, tru_int, tru_tup, and_assoc, bl_inj, add_int, sub_int, mul_int, fdiv_int, mod_int, pow_int, add_tup, add_str, aug_add, aug_sub, eq_int, ne_int, eq_bl, ne_bl, eq_str, ne_str, lt_int, le_int, gt_int, ge_int, is_bl, isnot_bl])
theorem seq_ {M : Md} {s : S} {ss : Ss} {K : Kt} {σ : Sg} {h : Hc} (I : Sg → Hc → Prop) (h1 : ∀ k : Sg → Hc → Prop, (∀ σ' h', I σ' h' → k σ' h') → wpS M s { K with nx := k } σ h) (h2 : ∀ σ' h', I σ' h' → wpSs M ss K σ' h') : wpSs M (.cons s ss) K σ h := h1 _ h2
/-- the turns of a for, by their number -/
theorem for_at {chk : Hc → Prop} {g : D → Sg → Hc → (Sg → Hc → Prop) → Prop} {b : (Sg → Hc → Prop) → Sg → Hc → Prop} {nx : Sg → Hc → Prop} {xs : List D} (I : Nat → Sg → Hc → Prop)
    (hs : ∀ i x σ h, xs[i]? = some x → I i σ h → chk h ∧ ∀ k : Sg → Hc → Prop, (∀ σ' h', I (i + 1) σ' h' → k σ' h') → g x σ h fun σ2 h2 => b k σ2 h2) (he : ∀ σ h, I xs.length σ h → chk h ∧ nx σ h) {σ : Sg} {h : Hc} (h0 : I 0 σ h) : wpFor chk g b nx xs σ h := by
  refine for_ind (fun rest σ h => ∃ i, i + rest.length = xs.length ∧ rest = xs.drop i ∧ I i σ h) (fun x rest σ h i => ?_) (fun σ h i => ?_) xs σ h ⟨0, by omega, rfl, h0⟩
  · obtain ⟨i, e1, e2, i⟩ := i
    rename_i i0
    rw [List.length_cons] at e1
    have lt : i0 < xs.length := by omega
    rw [List.drop_eq_getElem_cons lt] at e2
    cases e2
    obtain ⟨a, f⟩ := hs i0 _ σ h (List.getElem?_eq_getElem lt) i
    exact ⟨a, fun k hk => f k fun σ' h' i' => hk σ' h' ⟨i0 + 1, by omega, rfl, i'⟩⟩
  · obtain ⟨i0, e1, e2, i⟩ := i
    have : i0 = xs.length := by simpa using e1
    subst this
    exact he σ h i
theorem for_rng {chk : Hc → Prop} {g : D → Sg → Hc → (Sg → Hc → Prop) → Prop} {b : (Sg → Hc → Prop) → Sg → Hc → Prop} {nx : Sg → Hc → Prop} {n : Nat} {lo : Int} (I : Nat → Sg → Hc → Prop)
    (hs : ∀ i σ h, i < n → I i σ h → chk h ∧ ∀ k : Sg → Hc → Prop, (∀ σ' h', I (i + 1) σ' h' → k σ' h') → g (.int (lo + (i : Int))) σ h fun σ2 h2 => b k σ2 h2) (he : ∀ σ h, I n σ h → chk h ∧ nx σ h) {σ : Sg} {h : Hc} (h0 : I 0 σ h) :
    wpFor chk g b nx ((List.range n).map fun (k : Nat) => .int (lo + (k : Int))) σ h := by
  refine for_at I (fun i x σ h e i' => ?_) (fun σ h i => he σ h (by simpa using i)) h0
  have lt : i < n := by simpa using (List.getElem?_eq_some_iff.mp e).1
  rw [range_at _ lt] at e
  cases e
  exact hs i σ h lt i'
theorem rng_one {R : Rw} {j : Int} {h : Hc} (b1 : -(2 ^ 62) ≤ j) (b2 : j < 2 ^ 62) (r : R ((List.range j.toNat).map fun (k : Nat) => .int (0 + (k : Int))) (fun _ => True) h) : rngD R [.int j] h := ⟨b1, b2, r⟩
theorem rdl_set {h : Hc} {r : Addr} {o : MO} {a : Addr} {xs : List D} (x : RdL h a xs) (n : h r = none) : RdL (hset h r o) a xs := by
  have : a ≠ r := fun z => by subst z; rcases x with x | x <;> (rw [n] at x; cases x)
  unfold RdL
  rw [hset_ne this]
  exact x
theorem ok_draws {C : Nat → Fn} {L : Cls} (p7 : P7 C 7) {c p : Int} {b : Addr} {ws : List Int} {h : Hc} {Q : Qv} {X : Qx} (rb : RdL h b (ws.map D.int)) (wid : Wid ws) (few : ws.length < 100000) (p0 : 0 < p)
    (q : ∀ r vs, h r = none → Drawn ws vs → Q (.ref r) (hset h r (.lst (vs.map D.int)))) : wpF C L ⟨3, 6, m_law_draws⟩ [.int c, .ref b, .int p] h Q X := by
  have line := line_ge
  refine ⟨rfl, ?_⟩
  unfold m_law_draws
  refine seq_ (fun σ' h' => σ' = [some (.int c), some (.ref b), some (.int p), some (.int 0), none, none] ∧ h = h') (fun k hk => ?_) fun σ' h' ⟨e1, e2⟩ => ?_
  · trivial
    exact hk _ _ ⟨rfl, rfl⟩
  subst e1 e2
  refine seq_ (fun σ' h'' => ∃ l, σ' = [some (.int c), some (.ref b), some (.int p), some (.int l), none, none] ∧ h = h'') (fun k hk => ?_) fun σ' h'' ⟨l, e1, e2⟩ => ?_
  · trivial
    refine ⟨by decide, by decide, by decide, ?_⟩
    by_cases e : (10 : Int) ^ (18 : Int).toNat ≤ c
    · rw [decide_eq_true e, if_pos rfl]
      exact ⟨by decide, by decide, by decide, hk _ _ ⟨_, rfl, rfl⟩⟩
    · rw [decide_eq_false e, if_neg (by decide)]
      exact hk _ _ ⟨_, rfl, rfl⟩
  subst e1 e2
  refine seq_ (fun σ' h' => ∃ r, h r = none ∧ σ' = [some (.int c), some (.ref b), some (.int p), some (.int l), some (.ref r), none] ∧ h' = hset h r (.lst [])) (fun k hk => ?_) fun σ' h' ⟨r, nr, e1, e2⟩ => ?_
  · trivial
    exact ⟨Nat.zero_le _, fun r nr => hk _ _ ⟨r, nr, rfl, rfl⟩⟩
  subst e1 e2
  refine seq_ (fun σ' h' => ∃ vs l k5, Drawn ws vs ∧ σ' = [some (.int c), some (.ref b), some (.int p), some (.int l), some (.ref r), k5] ∧ h' = hset h r (.lst (vs.map D.int))) (fun k hk => ?_) fun σ' h' ⟨vs, l, k5, dr, e1, e2⟩ => ?_
  · refine .inl ?_
    trivial
    refine len_lst (rdl_set rb nr) (.here ⟨rfl, rng_one (by omega) (by rw [List.length_map]; omega) ?_⟩)
    rw [List.length_map, Int.toNat_natCast]
    refine for_rng (fun i σ' h' => ∃ (vs : List Int) (l : Int) (k5 : Option D), vs.length = i ∧ (∀ (i : Nat) (v w : Int), vs[i]? = some v → ws[i]? = some w → 0 ≤ v ∧ v < w) ∧ σ' = [some (.int c), some (.ref b), some (.int p), some (.int l), some (.ref r), k5] ∧ h' = hset h r (.lst (vs.map D.int)))
      (fun i σ' h' lt ⟨vs, l, k5, e1, e2, e3, e4⟩ => ⟨True.intro, fun k hk => ?_⟩) (fun σ' h' ⟨vs, l, k5, e1, e2, e3, e4⟩ => ⟨True.intro, hk _ _ ⟨vs, l, k5, ⟨e1, e2⟩, e3, e4⟩⟩) ⟨[], l, none, rfl, fun i v w e => by simp at e, rfl, rfl⟩
    subst e3 e4
    have rb' : RdL (hset h r (.lst (vs.map D.int))) b (ws.map D.int) := rdl_set rb nr
    have more : ∀ (v w : Int), ws[i]? = some w → 0 ≤ v → v < w → ∀ (j : Nat) (v' w' : Int), (vs ++ [v])[j]? = some v' → ws[j]? = some w' → 0 ≤ v' ∧ v' < w' := fun v w ew v0 v1 j v' w' g1 g2 => by
      by_cases z : j < vs.length
      · rw [List.getElem?_append_left z] at g1
        exact e2 j v' w' g1 g2
      · rw [List.getElem?_append_right (by omega)] at g1
        have : j - vs.length = 0 := by
          have := (List.getElem?_eq_some_iff.mp g1).1
          simp at this
          omega
        obtain rfl : j = i := by omega
        rw [this] at g1
        cases g1
        rw [g2] at ew
        cases ew
        exact ⟨v0, v1⟩
    have e0 : (0 : Int) + (i : Int) = (i : Int) := by omega
    have i1 : (0 : Int) ≤ i := by omega
    have i2 : (i : Int) < ws.length := by omega
    have mapd : ∀ v : Int, vs.map D.int ++ [D.int v] = (vs ++ [v]).map D.int := fun v => by simp
    have l1 : (vs.map D.int).length < sizeLine := by rw [List.length_map]; omega
    trivial
    rw [e0]
    by_cases e : 1 < l
    · rw [decide_eq_true e, if_pos rfl]
      refine ⟨⟨r, rfl, _, .inl hset_same⟩, ix_ints rb' i1 i2 fun w ew => ?_⟩
      trivial
      obtain ⟨w0, w1⟩ := wid w (List.mem_of_getElem? ew)
      rw [Int.toNat_natCast] at ew
      refine ⟨w0, r, vs.map D.int, _, rfl, rfl, hset_same, l1, ?_⟩
      rw [hset_hset, mapd]
      refine ix_ints (rdl_set rb nr) i1 i2 fun w' ew' => ?_
      rw [Int.toNat_natCast, ew] at ew'
      cases ew'
      trivial
      exact ⟨w0, w1, hk _ _ ⟨vs ++ [l % w], _, _, by simp [e1], more _ w ew (Int.emod_nonneg _ (by omega)) (Int.emod_lt_of_pos _ w0), rfl, rfl⟩⟩
    · rw [decide_eq_false e, if_neg (by decide)]
      refine ⟨⟨r, rfl, _, .inl hset_same⟩, p7 c i p _ _ _ i1 (by omega) p0 fun z _ _ => ?_⟩
      refine ix_ints rb' i1 i2 fun w ew => ?_
      trivial
      obtain ⟨w0, w1⟩ := wid w (List.mem_of_getElem? ew)
      rw [Int.toNat_natCast] at ew
      refine ⟨w0, r, vs.map D.int, _, rfl, rfl, hset_same, l1, ?_⟩
      rw [hset_hset, mapd]
      exact hk _ _ ⟨vs ++ [z % w], _, _, by simp [e1], more _ w ew (Int.emod_nonneg _ (by omega)) (Int.emod_lt_of_pos _ w0), rfl, rfl⟩
  subst e1 e2
  trivial
  exact .here (q r vs nr dr)
end Sr

set_option Elab.async false
set_option linter.all false
set_option maxRecDepth 100000
set_option autoImplicit false
set_option maxHeartbeats 1000000
/-! SrP6: unlike -/
namespace Sr
open PySem L2
/-- the words that are opened -/
local macro_rules | `(tactic| trivial) => `(tactic| simp only [wpSs, wpS, wpE, wpEs, wpT, wpCs, wpTg, wpTgs, wpIt, wpIsi, wip, begn, List.map_cons, List.map_nil, List.length_cons, List.length_nil, List.replicate, List.nil_append, List.cons_append, List.append_nil, List.getElem?_cons_zero, List.getElem?_cons_succ, List.set_cons_zero, List.set_cons_succ,
  Option.some.injEq, exists_eq_left', exists_eq_left, Nat.sub_self, Nat.reduceSub, Nat.reduceAdd, exists_and_left, ↓reduceIte, Bool.not_true, Bool.not_false, Bool.false_eq_true, isTy_iff, tru_bl, tru_int, tru_tup, and_assoc, bl_inj, add_int, sub_int, mul_int, fdiv_int, mod_int, pow_int, add_tup, add_str, aug_add, aug_sub, eq_int, ne_int, eq_bl, ne_bl, eq_str, ne_str, lt_int, le_int, gt_int, ge_int, is_bl, isnot_bl])
/-! ### keys as data -/
def pdK : Key → PyData
  | .inl i => .int i
  | .inr x => .str x
def pdT (k : List Key) : PyData := .tuple (k.map pdK)
theorem pd_key {h : Hc} : ∀ c : Key, PdOf h (keyD c) (pdK c)
  | .inl i => .int i
  | .inr x => .str x
theorem pds_keys {h : Hc} : ∀ k : List Key, PdsOf h (k.map keyD) (k.map pdK)
  | [] => .nil
  | c :: k => .cons (pd_key c) (pds_keys k)
theorem pd_keyT {h : Hc} (k : List Key) : PdOf h (keyT k) (pdT k) := .tup (pds_keys k)
theorem pds_keyT {h : Hc} : ∀ kss : List (List Key), PdsOf h (kss.map keyT) (kss.map pdT)
  | [] => .nil
  | k :: kss => .cons (pd_keyT k) (pds_keyT kss)
theorem eqv_key (a b : Key) : PyData.eqv (pdK a) (pdK b) = decide (a = b) := by
  cases a <;> cases b <;> first | (simp [pdK, PyData.eqv]; done) | (simp only [pdK, PyData.eqv]; rw [Bool.eq_iff_iff]; simp)
theorem eqv_keys : ∀ a b : List Key, PyData.eqvAll (a.map pdK) (b.map pdK) = decide (a = b)
  | [], [] => by simp [PyData.eqvAll]
  | [], _ :: _ => by simp [PyData.eqvAll]
  | _ :: _, [] => by simp [PyData.eqvAll]
  | x :: a, y :: b => by
    rw [List.map_cons, List.map_cons, PyData.eqvAll, eqv_key, eqv_keys a b, Bool.eq_iff_iff]
    simp
theorem eqv_keyT (a b : List Key) : PyData.eqv (pdT a) (pdT b) = decide (a = b) := by
  show PyData.eqv (.tuple (a.map pdK)) (.tuple (b.map pdK)) = _
  rw [PyData.eqv, eqv_keys]
def hasK (k : List Key) (kss : List (List Key)) : Bool := kss.any fun z => decide (z = k)
theorem hasK_iff {k : List Key} {kss : List (List Key)} : hasK k kss = true ↔ k ∈ kss := by
  unfold hasK
  rw [List.any_eq_true]
  constructor
  · rintro ⟨z, hz, e⟩
    rw [← of_decide_eq_true e]; exact hz
  · exact fun m => ⟨k, m, decide_eq_true rfl⟩
theorem any_keyT (k : List Key) (kss : List (List Key)) : ((kss.map pdT).any fun z => PyData.eqv z (pdT k)) = hasK k kss := by
  unfold hasK
  induction kss with
  | nil => rfl
  | cons c kss ih => rw [List.map_cons, List.any_cons, List.any_cons, ih, eqv_keyT]
/-- texts that may be laid -/
def okK : Key → Bool
  | .inl _ => true
  | .inr x => PyData.canLay0 (.str x)
theorem depth_keys : ∀ k : List Key, PyData.depthAll (k.map pdK) = 0
  | [] => rfl
  | c :: k => by
    rw [List.map_cons, PyData.depthAll, depth_keys k]
    cases c <;> rfl
theorem depth_keyT (k : List Key) : (pdT k).depth = 1 := by
  show PyData.depth (.tuple (k.map pdK)) = 1
  rw [PyData.depth, depth_keys]
theorem depth_keyTs : ∀ kss : List (List Key), PyData.depthAll (kss.map pdT) ≤ 1
  | [] => Nat.zero_le _
  | k :: kss => by
    rw [List.map_cons, PyData.depthAll, depth_keyT]
    have := depth_keyTs kss
    omega
theorem lay_keys : ∀ k : List Key, k.all okK = true → PyData.canLayAll0 (k.map pdK) = true
  | [], _ => by simp [PyData.canLayAll0]
  | c :: k, h => by
    rw [List.all_cons, Bool.and_eq_true] at h
    rw [List.map_cons, PyData.canLayAll0, lay_keys k h.2, Bool.and_true]
    cases c with
    | inl i => simp [pdK, PyData.canLay0]
    | inr x => exact h.1
theorem lay_keyTs : ∀ kss : List (List Key), (∀ k ∈ kss, k.all okK = true) → PyData.canLayAll0 (kss.map pdT) = true
  | [], _ => by simp [PyData.canLayAll0]
  | k :: kss, h => by
    rw [List.map_cons, PyData.canLayAll0, lay_keyTs kss fun c hc => h c (List.mem_cons.mpr (.inr hc)), Bool.and_true]
    show PyData.canLay0 (.tuple (k.map pdK)) = true
    rw [PyData.canLay0]
    exact lay_keys k (h k (List.mem_cons.mpr (.inl rfl)))
theorem shaped_keyT {k : List Key} (h : k.all okK = true) : SeqAt.shaped (pdT k) = true := by
  unfold SeqAt.shaped
  rw [Bool.and_eq_true]
  refine ⟨?_, by rw [depth_keyT]; rfl⟩
  show PyData.canLay0 (.tuple (k.map pdK)) = true
  rw [PyData.canLay0]
  exact lay_keys k h
theorem shaped_keyTs {kss : List (List Key)} (h : ∀ k ∈ kss, k.all okK = true) : SeqAt.shaped (.list (kss.map pdT)) = true := by
  unfold SeqAt.shaped
  rw [Bool.and_eq_true]
  refine ⟨by rw [PyData.canLay0]; exact lay_keyTs kss h, decide_eq_true ?_⟩
  rw [PyData.depth]
  have := depth_keyTs kss
  omega
theorem in_keyTs {h : Hc} {r : Addr} {k : List Key} {kss : List (List Key)} (e : RdL h r (kss.map keyT)) (o1 : k.all okK = true) (o2 : ∀ k ∈ kss, k.all okK = true) : InD h (keyT k) (.ref r) (hasK k kss) :=
  .inr (.inl ⟨_, _, _, e, pd_keyT k, pds_keyT kss, shaped_keyT o1, shaped_keyTs o2, (any_keyT k kss).symm⟩)
/-! ### a way's key -/
theorem lay_letters : letters.cps.toList.all (fun c => PyData.canLay0 (.str ⟨#[c]⟩)) = true := by decide +kernel
theorem lay_words : raises.all (fun p => match p.1 with
  | .str x => PyData.canLay0 (.str x)
  | _ => true) = true := by decide +kernel
theorem deed_word {x : Str} (h : isDeed (.str x) = true) : x = "up" ∨ x = "down" ∨ x = "stay" ∨ x = "zero" := by
  have h : (dval raises (.one (.inr x))).isSome = true := h
  unfold dval at h
  rw [Option.isSome_map] at h
  obtain ⟨p, e⟩ := Option.isSome_iff_exists.mp h
  have m := List.mem_of_find?_eq_some e
  have k := List.find?_some e
  unfold raises at m
  simp only [List.mem_cons, List.not_mem_nil, or_false] at m
  rcases m with rfl | rfl | rfl | rfl
  · have : some (KK.one (.inr (("up" : Str)))) = some (KK.one (.inr x)) := of_decide_eq_true k
    injection this with this; injection this with this; injection this with this
    exact .inl this.symm
  · have : some (KK.one (.inr (("down" : Str)))) = some (KK.one (.inr x)) := of_decide_eq_true k
    injection this with this; injection this with this; injection this with this
    exact .inr (.inl this.symm)
  · have : some (KK.one (.inr (("stay" : Str)))) = some (KK.one (.inr x)) := of_decide_eq_true k
    injection this with this; injection this with this; injection this with this
    exact .inr (.inr (.inl this.symm))
  · have : some (KK.one (.inr (("zero" : Str)))) = some (KK.one (.inr x)) := of_decide_eq_true k
    injection this with this; injection this with this; injection this with this
    exact .inr (.inr (.inr this.symm))
theorem sign_one {x : Str} (h : isSign (.str x) = true) : ∃ c, x = ⟨#[c]⟩ ∧ c ∈ letters.cps.toList := by
  have h : (decide (x.length = 1) && decide (x.cps.getD 0 0 ∈ letters.cps.toList)) = true := h
  rw [Bool.and_eq_true] at h
  obtain ⟨c, rfl⟩ := str_one (of_decide_eq_true h.1)
  exact ⟨c, rfl, of_decide_eq_true h.2⟩
theorem lay_word (x : Str) (h : x = "up" ∨ x = "down" ∨ x = "stay" ∨ x = "zero") : PyData.canLay0 (.str x) = true := by
  rcases h with rfl | rfl | rfl | rfl <;> decide +kernel
/-- what a way is -/
theorem way_is {d : D} {m : Int} (h : isWay d m = true) : ∃ (r o : Int) (x s : Str), d = .tup [.int r, .str x, .int o, .str s] ∧ 0 ≤ r ∧ r < m ∧ 0 ≤ o ∧ o < m ∧ (x = "up" ∨ x = "down" ∨ x = "stay" ∨ x = "zero") ∧ ∃ c, s = ⟨#[c]⟩ ∧ c ∈ letters.cps.toList := by
  unfold isWay at h
  split at h
  · rename_i r e o s
    simp only [Bool.and_eq_true] at h
    obtain ⟨⟨⟨h1, h2⟩, h3⟩, h4⟩ := h
    cases r <;> first | exact nomatch (show false = true from h1) | skip
    cases o <;> first | exact nomatch (show false = true from h2) | skip
    cases s <;> first | exact nomatch (show false = true from h3) | skip
    cases e <;> first | exact nomatch (show false = true from h4) | skip
    rename_i i j x y
    have h1 : (decide (0 ≤ i) && decide (i < m)) = true := h1
    have h2 : (decide (0 ≤ j) && decide (j < m)) = true := h2
    simp only [Bool.and_eq_true, decide_eq_true_eq] at h1 h2
    exact ⟨i, j, y, x, rfl, h1.1, h1.2, h2.1, h2.2, deed_word h4, sign_one h3⟩
  · cases h
theorem way_ok {k : List Key} {m : Int} (h : isWay (keyT k) m = true) : k.all okK = true := by
  obtain ⟨r, o, x, s, e, _, _, _, _, w, c, rfl, hc⟩ := way_is h
  have : kT (keyT k) = kT (.tup [.int r, .str x, .int o, .str ⟨#[c]⟩]) := by rw [e]
  rw [kT_keyT] at this
  have : k = [.inl r, .inr x, .inl o, .inr ⟨#[c]⟩] := Option.some.inj this
  subst this
  have a1 : PyData.canLay0 (.str x) = true := lay_word x w
  have a2 : PyData.canLay0 (.str (⟨#[c]⟩ : Str)) = true := List.all_eq_true.mp lay_letters c hc
  show (true && (PyData.canLay0 (.str x) && (true && (PyData.canLay0 (.str (⟨#[c]⟩ : Str)) && true)))) = true
  rw [a1, a2]
  rfl
theorem way_gd {h : Hc} {d : D} {m : Int} (w : isWay d m = true) : Gd h d := by
  obtain ⟨r, o, x, s, rfl, _, _, _, _, e, c, rfl, _⟩ := way_is w
  have line := line_ge
  have l1 : x.length ≤ 4 := by rcases e with rfl | rfl | rfl | rfl <;> decide +kernel
  refine ⟨True.intro, ?_, True.intro, ?_, True.intro⟩
  · show x.length ≤ sizeLine
    omega
  · show (1 : Nat) ≤ sizeLine
    omega
theorem ways_gd {h : Hc} {m : Int} {ws : List D} (w : ws.all (isWay · m) = true) : Gds h ws := Gds.of fun x hx => way_gd (List.all_eq_true.mp w x hx)
theorem house_is {d : D} (h : isHouse d = true) : ∃ (m : Int) (ws : List D), d = .tup [.int m, .tup ws] ∧ 1 ≤ m ∧ m ≤ 12 ∧ ws.length ≤ 100 ∧ ws.all (isWay · m) = true ∧ (ws.filterMap kT).Nodup := by
  unfold isHouse at h
  split at h
  · rename_i m ws
    simp only [Bool.and_eq_true, decide_eq_true_eq] at h
    obtain ⟨⟨⟨⟨h1, h2⟩, h3⟩, h4⟩, h5⟩ := h
    exact ⟨m, ws, rfl, h1, h2, h3, h4, h5⟩
  · cases h
theorem house_gd {h : Hc} {d : D} (w : isHouse d = true) : Gd h d := by
  obtain ⟨m, ws, rfl, _, _, _, h4, _⟩ := house_is w
  exact ⟨True.intro, ways_gd h4, True.intro⟩
/-! ### unlike -/
def P10 (C : Nat → Fn) (i : Nat) : Prop := ∀ (b : Addr) (ws : List D) (m : Int) (h : Hc) (Q : Qv) (X : Qx), RdL h b ws → ws.all (isWay · m) = true → ws.length ≤ 1000 →
  (∀ us : List D, us.all (isWay · m) = true → (us.filterMap kT).Nodup → us.length ≤ ws.length → Q (.tup us) h) → C i [.ref b] h Q X
theorem ok_unlike {C : Nat → Fn} {L : Cls} {b : Addr} {ws : List D} {m : Int} {h : Hc} {Q : Qv} {X : Qx} (rb : RdL h b ws) (al : ws.all (isWay · m) = true) (few : ws.length ≤ 1000)
    (q : ∀ us : List D, us.all (isWay · m) = true → (us.filterMap kT).Nodup → us.length ≤ ws.length → Q (.tup us) h) : wpF C L ⟨1, 3, m_law_unlike⟩ [.ref b] h Q X := by
  have line := line_ge
  refine ⟨rfl, ?_⟩
  unfold m_law_unlike
  refine seq_ (fun σ' h' => ∃ r, h r = none ∧ σ' = [some (.ref b), some (.ref r), none] ∧ h' = hset h r (.lst [])) (fun k hk => ?_) fun σ' h' ⟨r, nr, e1, e2⟩ => ?_
  · trivial
    exact ⟨Nat.zero_le _, fun r nr => hk _ _ ⟨r, nr, rfl, rfl⟩⟩
  subst e1 e2
  refine seq_ (fun σ' h' => ∃ (kss : List (List Key)) (k2 : Option D), kss.Nodup ∧ (∀ k ∈ kss, isWay (keyT k) m = true) ∧ kss.length ≤ ws.length ∧ σ' = [some (.ref b), some (.ref r), k2] ∧ h' = hset h r (.lst (kss.map keyT))) (fun k hk => ?_) fun σ' h' ⟨kss, k2, nd, ok, le, e1, e2⟩ => ?_
  · refine .inl ?_
    trivial
    refine .inl ⟨ws, rdl_set rb nr, ?_⟩
    refine for_at (fun i σ' h' => ∃ (kss : List (List Key)) (k2 : Option D), kss.Nodup ∧ (∀ k ∈ kss, isWay (keyT k) m = true) ∧ kss.length ≤ i ∧ σ' = [some (.ref b), some (.ref r), k2] ∧ h' = hset h r (.lst (kss.map keyT)))
      (fun i x σ' h' ex ⟨kss, k2, nd, ok, le, e1, e2⟩ => ?_) (fun σ' h' ⟨kss, k2, nd, ok, le, e1, e2⟩ => ?_) ⟨[], none, List.nodup_nil, (fun k hk => by cases hk), Nat.le_refl _, rfl, rfl⟩
    · subst e1 e2
      have lt : i < ws.length := (List.getElem?_eq_some_iff.mp ex).1
      refine ⟨rdl_set rb nr, fun k hk => ?_⟩
      have wx := List.all_eq_true.mp al x (List.mem_of_getElem? ex)
      obtain ⟨kx, rfl⟩ := way_key wx
      trivial
      refine ⟨_, in_keyTs (.inl hset_same) (way_ok wx) (fun c hc => way_ok (ok c hc)), _, rfl, ?_⟩
      cases ec : hasK kx kss with
      | true =>
        rw [if_neg (by decide)]
        exact hk _ _ ⟨kss, _, nd, ok, by omega, rfl, rfl⟩
      | false =>
        have c : kx ∉ kss := fun z => by rw [hasK_iff.mpr z] at ec; cases ec
        rw [if_pos (by decide)]
        refine ⟨⟨r, rfl, _, .inl hset_same⟩, r, _, _, rfl, rfl, hset_same, by rw [List.length_map]; omega, ?_⟩
        rw [hset_hset]
        refine hk _ _ ⟨kss ++ [kx], _, ?_, fun z hz => ?_, by rw [List.length_append, List.length_singleton]; omega, rfl, by simp⟩
        · rw [List.nodup_append]
          refine ⟨nd, by simp, fun a ha b hb e => ?_⟩
          rw [List.mem_singleton.mp hb] at e
          exact c (e ▸ ha)
        · rcases List.mem_append.mp hz with z1 | z1
          · exact ok z z1
          · rw [List.mem_singleton.mp z1]; exact wx
    · subst e1 e2
      exact ⟨rdl_set rb nr, hk _ _ ⟨kss, k2, nd, ok, le, rfl, rfl⟩⟩
  subst e1 e2
  trivial
  refine ⟨_, _, rfl, .inr ⟨r, rfl, .inl hset_same⟩, .here ?_⟩
  have fm : (kss.map keyT).filterMap kT = kss := by
    rw [List.filterMap_map]
    have : (kT ∘ keyT) = some := funext kT_keyT
    rw [this, List.filterMap_some]
  exact .to ((Sub.refl h).put nr) (q _ (List.all_eq_true.mpr fun z hz => by
    obtain ⟨k, hk, rfl⟩ := List.mem_map.mp hz
    exact ok k hk) (by rw [fm]; exact nd) (by rw [List.length_map]; exact le))
end Sr

set_option Elab.async false
set_option linter.all false
set_option maxRecDepth 100000
set_option autoImplicit false
set_option maxHeartbeats 1000000
/-! SrP7: helpers -/
namespace Sr
open PySem L2
/-- the words that are opened -/
local macro_rules | `(tactic| trivial) => `(tactic| simp only [wpSs, wpS, wpE, wpEs, wpT, wpCs, wpTg, wpTgs, wpIt, wpIsi, wip, begn, List.map_cons, List.map_nil, List.length_cons, List.length_nil, List.replicate, List.nil_append, List.cons_append, List.append_nil, List.getElem?_cons_zero, List.getElem?_cons_succ, List.set_cons_zero, List.set_cons_succ,
  Option.some.injEq, exists_eq_left', exists_eq_left, Nat.sub_self, Nat.reduceSub, Nat.reduceAdd, exists_and_left, ↓reduceIte, Bool.not_true, Bool.not_false, Bool.false_eq_true, isTy_iff, tru_bl, tru_int, tru_tup, and_assoc, bl_inj, add_int, sub_int, mul_int, fdiv_int, mod_int, pow_int, add_tup, add_str, aug_add, aug_sub, eq_int, ne_int, eq_bl, ne_bl, eq_str, ne_str, lt_int, le_int, gt_int, ge_int, is_bl, isnot_bl])
theorem dr_at {ws vs : List Int} (d : Drawn ws vs) {k : Nat} {w : Int} (e : ws[k]? = some w) : ∃ v, vs[k]? = some v ∧ 0 ≤ v ∧ v < w := by
  have lt : k < vs.length := by rw [d.1]; exact (List.getElem?_eq_some_iff.mp e).1
  have g := List.getElem?_eq_getElem lt
  obtain ⟨a, b⟩ := d.2 k _ w g e
  exact ⟨_, g, a, b⟩
theorem ix_drawn {h : Hc} {Q : Qv} {a : Addr} {ws vs : List Int} (d : Drawn ws vs) (r : RdL h a (vs.map D.int)) (k : Nat) {w : Int} (e : ws[k]? = some w) (q : ∀ v, vs[k]? = some v → 0 ≤ v → v < w → Q (.int v) h) : wpIx (.ref a) (.int (k : Int)) h Q := by
  obtain ⟨v, g, v0, v1⟩ := dr_at d e
  refine ix_lst r (at_of (by omega) (v := .int v) ?_) (q v g v0 v1)
  rw [Int.toNat_natCast, List.getElem?_map, g]; rfl
theorem at_all {xs : List D} {k : Int} {p : D → Bool} (k0 : 0 ≤ k) (k1 : k < xs.length) (al : xs.all p = true) : ∃ v, atI xs k = some v ∧ p v = true := by
  have lt : k.toNat < xs.length := by omega
  have g := List.getElem?_eq_getElem lt
  exact ⟨_, at_of k0 g, List.all_eq_true.mp al _ (List.mem_of_getElem? g)⟩
theorem ix_all {h : Hc} {Q : Qv} {a : Addr} {xs : List D} {k : Int} (p : D → Bool) (r : RdL h a xs) (k0 : 0 ≤ k) (k1 : k < xs.length) (al : xs.all p = true) (q : ∀ v, p v = true → Q v h) : wpIx (.ref a) (.int k) h Q := by
  obtain ⟨v, e, pv⟩ := at_all k0 k1 al
  exact ix_lst r e (q v pv)
/-- a sign of a text -/
theorem ix_chr {h : Hc} {Q : Qv} {z : Str} {k : Int} (p : Nat → Bool) (l : z.length ≤ sizeLine) (k0 : 0 ≤ k) (k1 : k < z.cps.toList.length) (al : z.cps.toList.all p = true) (q : ∀ c, p c = true → Q (.str ⟨#[c]⟩) h) : wpIx (.str z) (.int k) h Q := by
  have lt : k.toNat < z.cps.toList.length := by omega
  have g := List.getElem?_eq_getElem lt
  have : atI z.cps.toList k = some z.cps.toList[k.toNat] := by
    have := atI_nat g
    rwa [Int.toNat_of_nonneg k0] at this
  exact ⟨k, _, rfl, l, this, q _ (List.all_eq_true.mp al _ (List.mem_of_getElem? g))⟩
def wordB : D → Bool
  | .str x => decide (x = "up" ∨ x = "down" ∨ x = "stay" ∨ x = "zero")
  | _ => false
theorem word_is {d : D} (h : wordB d = true) : ∃ x, d = .str x ∧ (x = "up" ∨ x = "down" ∨ x = "stay" ∨ x = "zero") := by
  cases d with
  | str x => exact ⟨x, rfl, of_decide_eq_true h⟩
  | _ => cases h
theorem deed_of {x : Str} (h : x = "up" ∨ x = "down" ∨ x = "stay" ∨ x = "zero") : isDeed (.str x) = true := by
  rcases h with rfl | rfl | rfl | rfl <;> decide +kernel
theorem sign_of {c : Nat} (h : c ∈ letters.cps.toList) : isSign (.str ⟨#[c]⟩) = true := by
  show (decide ((⟨#[c]⟩ : Str).length = 1) && decide (c ∈ letters.cps.toList)) = true
  rw [decide_eq_true h]; rfl
theorem way_of {r o m : Int} {x s : Str} (r0 : 0 ≤ r) (r1 : r < m) (o0 : 0 ≤ o) (o1 : o < m) (w : isDeed (.str x) = true) (sg : isSign (.str s) = true) : isWay (.tup [.int r, .str x, .int o, .str s]) m = true := by
  show (decide (0 ≤ r) && decide (r < m) && (decide (0 ≤ o) && decide (o < m)) && isSign (.str s) && isDeed (.str x)) = true
  rw [decide_eq_true r0, decide_eq_true r1, decide_eq_true o0, decide_eq_true o1, sg, w]; rfl
theorem house_of {m : Int} {ws : List D} (m1 : 1 ≤ m) (m2 : m ≤ 12) (l : ws.length ≤ 100) (al : ws.all (isWay · m) = true) (nd : (ws.filterMap kT).Nodup) : isHouse (.tup [.int m, .tup ws]) = true := by
  show (decide (1 ≤ m) && decide (m ≤ 12) && decide (ws.length ≤ 100) && ws.all (isWay · m) && decide (ws.filterMap kT).Nodup) = true
  rw [decide_eq_true m1, decide_eq_true m2, decide_eq_true l, al, decide_eq_true nd]; rfl
end Sr

set_option Elab.async false
set_option linter.all false
set_option maxRecDepth 100000
set_option autoImplicit false
set_option maxHeartbeats 1000000
/-! SrP8: drawn houses -/
namespace Sr
open PySem L2
/-- the words that are opened -/
local macro_rules | `(tactic| trivial) => `(tactic| simp only [wpSs, wpS, wpE, wpEs, wpT, wpCs, wpTg, wpTgs, wpIt, wpIsi, wip, begn, List.map_cons, List.map_nil, List.length_cons, List.length_nil, List.replicate, List.nil_append, List.cons_append, List.append_nil, List.getElem?_cons_zero, List.getElem?_cons_succ, List.set_cons_zero, List.set_cons_succ,
  Option.some.injEq, exists_eq_left', exists_eq_left, Nat.sub_self, Nat.reduceSub, Nat.reduceAdd, exists_and_left, ↓reduceIte, Bool.not_true, Bool.not_false, Bool.false_eq_true, isTy_iff, tru_bl, tru_int, tru_tup, and_assoc, bl_inj, add_int, sub_int, mul_int, fdiv_int, mod_int, pow_int, add_tup, add_str, aug_add, aug_sub, eq_int, ne_int, eq_bl, ne_bl, eq_str, ne_str, lt_int, le_int, gt_int, ge_int, is_bl, isnot_bl])
theorem hs_none {h : Hc} {p a : Addr} {o : MO} (n : hset h p o a = none) : a ≠ p ∧ h a = none := by
  have : a ≠ p := fun z => by rw [z, hset_same] at n; cases n
  rw [hset_ne this] at n
  exact ⟨this, n⟩
theorem hs_keep {h : Hc} {p a : Addr} {o u : MO} (e : h a = some u) (n : h p = none) : hset h p o a = some u := by
  have : a ≠ p := fun z => by rw [z, n] at e; cases e
  rw [hset_ne this]; exact e
def dW : List Int := [8, 12, 13, 31] ++ (List.replicate 30 [12, 6, 12, 3]).flatten
theorem wid_of {ws : List Int} (h : ws.all (fun w => decide (0 < w ∧ w < 1073741824)) = true) : Wid ws := fun w hw => of_decide_eq_true (List.all_eq_true.mp h w hw)
theorem dW_wid : Wid dW := wid_of (by decide +kernel)
theorem dW_len : dW.length = 124 := by decide +kernel
theorem dW_at : (List.range 30).all (fun k => decide (dW[4 + 4 * k]? = some 12 ∧ dW[5 + 4 * k]? = some 6 ∧ dW[6 + 4 * k]? = some 12 ∧ dW[7 + 4 * k]? = some 3)) = true := by decide +kernel
theorem cut_four {xs : List D} {k : Nat} {a b c d : D} (e0 : xs[4 + 4 * k]? = some a) (e1 : xs[5 + 4 * k]? = some b) (e2 : xs[6 + 4 * k]? = some c) (e3 : xs[7 + 4 * k]? = some d) : cutD xs (some (4 + 4 * (k : Int))) (some (8 + 4 * (k : Int))) = [a, b, c, d] := by
  obtain ⟨l0, f0⟩ := List.getElem?_eq_some_iff.mp e0
  obtain ⟨l1, f1⟩ := List.getElem?_eq_some_iff.mp e1
  obtain ⟨l2, f2⟩ := List.getElem?_eq_some_iff.mp e2
  obtain ⟨l3, f3⟩ := List.getElem?_eq_some_iff.mp e3
  have c0 : (4 : Int) + 4 * (k : Int) = ((4 + 4 * k : Nat) : Int) := by omega
  have c1 : (8 : Int) + 4 * (k : Int) = ((8 + 4 * k : Nat) : Int) := by omega
  unfold cutD
  rw [c0, c1, HT.sIx_nat, HT.sIx_nat, Nat.min_eq_left (by omega : 4 + 4 * k ≤ xs.length), Nat.min_eq_left (by omega : 8 + 4 * k ≤ xs.length)]
  have s4 : 8 + 4 * k - (4 + 4 * k) = 4 := by omega
  rw [s4, List.drop_eq_getElem_cons (by omega : 4 + 4 * k < xs.length), f0, List.drop_eq_getElem_cons (by omega : 4 + 4 * k + 1 < xs.length), List.drop_eq_getElem_cons (by omega : 4 + 4 * k + 1 + 1 < xs.length), List.drop_eq_getElem_cons (by omega : 4 + 4 * k + 1 + 1 + 1 < xs.length)]
  have g1 : xs[4 + 4 * k + 1] = b := by rw [← f1]; congr 1; omega
  have g2 : xs[4 + 4 * k + 1 + 1] = c := by rw [← f2]; congr 1; omega
  have g3 : xs[4 + 4 * k + 1 + 1 + 1] = d := by rw [← f3]; congr 1; omega
  rw [g1, g2, g3]
  rfl
def PH (C : Nat → Fn) (i : Nat) : Prop := ∀ (c p : Int) (h : Hc) (Q : Qv) (X : Qx), 0 < p → (∀ d, isHouse d = true → Q d h) → C i [.int c, .int p] h Q X
def manyL : List Int := [4, 4, 4, 5, 3, 2, 5, 12]
theorem ok_drawn {C : Nat → Fn} {L : Cls} (p8 : P8 C 8) (p10 : P10 C 10) {c p : Int} {h : Hc} {Q : Qv} {X : Qx} (p0 : 0 < p) (q : ∀ d, isHouse d = true → Q d h) : wpF C L ⟨2, 12, m_law_drawn_house⟩ [.int c, .int p] h Q X := by
  have line := line_ge
  refine ⟨rfl, ?_⟩
  unfold m_law_drawn_house
  refine seq_ (fun σ' h' => ∃ r vs, σ' = [some (.int c), some (.int p), some (.ref r), none, none, none, none, none, none, none, none, none] ∧ Sub h h' ∧ h' r = some (.lst (vs.map D.int)) ∧ Drawn dW vs) (fun k hk => ?_) fun σ' h' ⟨r, vs, e1, sb, er, dr⟩ => ?_
  · trivial
    refine ⟨by omega, fun a na => ⟨by omega, fun b nb => ⟨_, hset_same, by decide, by decide, by show 4 * 30 ≤ sizeLine; omega, fun d nd => ?_⟩⟩⟩
    obtain ⟨_, nb0⟩ := hs_none nb
    obtain ⟨_, nd1⟩ := hs_none nd
    obtain ⟨_, nd0⟩ := hs_none nd1
    refine ⟨_, _, hs_keep (hs_keep hset_same nb) nd, hset_same, by show 4 + 120 ≤ sizeLine; omega, fun f nf => ?_⟩
    obtain ⟨_, nf2⟩ := hs_none nf
    obtain ⟨_, nf1⟩ := hs_none nf2
    obtain ⟨_, nf0⟩ := hs_none nf1
    refine p8 c p f dW _ _ _ (.inl (by rw [hset_same]; rfl)) dW_wid (by rw [dW_len]; omega) p0 fun r vs nr dr => ?_
    obtain ⟨_, nr3⟩ := hs_none nr
    obtain ⟨_, nr2⟩ := hs_none nr3
    obtain ⟨_, nr1⟩ := hs_none nr2
    obtain ⟨_, nr0⟩ := hs_none nr1
    exact hk _ _ ⟨r, vs, rfl, ((((((Sub.refl h).put na).put nb0).put nd0).put nf0).put nr0), hset_same, dr⟩
  subst e1
  refine seq_ (fun σ' h'' => ∃ m : Int, 1 ≤ m ∧ m ≤ 12 ∧ σ' = [some (.int c), some (.int p), some (.ref r), some (.int m), none, none, none, none, none, none, none, none] ∧ Sub h h'' ∧ h'' r = some (.lst (vs.map D.int))) (fun k hk => ?_) fun σ' h'' ⟨m, m1, m2, e1, sb, er⟩ => ?_
  · trivial
    refine ix_drawn dr (.inl er) 1 (w := 12) rfl fun v1 _ a0 a1 => ⟨by omega, fun a na => ?_⟩
    refine ix_drawn dr (.inl (hs_keep er na)) 0 (w := 8) rfl fun v0 _ b0 b1 => ?_
    refine ix_all (fun d => match d with
      | .int i => decide (1 ≤ i ∧ i ≤ 12)
      | _ => false) (.inl hset_same) b0 b1 (by decide +kernel) fun v pv => ?_
    cases v with
    | int i =>
      obtain ⟨i1, i2⟩ := of_decide_eq_true pv
      trivial
      have := Int.emod_nonneg v1 (by omega : i ≠ 0)
      have := Int.emod_lt_of_pos v1 (by omega : 0 < i)
      exact ⟨by omega, hk _ _ ⟨_, by omega, by omega, rfl, sb.put (by
        cases e : h a with
        | none => rfl
        | some o => rw [sb a o e] at na; cases na), hs_keep er na⟩⟩
    | _ => cases pv
  subst e1
  refine seq_ (fun σ' h3 => ∃ o : Int, 0 ≤ o ∧ o < 13 ∧ σ' = [some (.int c), some (.int p), some (.ref r), some (.int m), some (.int o), none, none, none, none, none, none, none] ∧ h'' = h3) (fun k hk => ?_) fun σ' h3 ⟨o, o0, o1, e1, e2⟩ => ?_
  · trivial
    exact ix_drawn dr (.inl er) 2 (w := 13) rfl fun v _ a0 a1 => hk _ _ ⟨v, a0, a1, rfl, rfl⟩
  subst e1 e2
  refine seq_ (fun σ' h3 => ∃ o : Int, 0 ≤ o ∧ o < 31 ∧ σ' = [some (.int c), some (.int p), some (.ref r), some (.int m), some (.int o), none, none, none, none, none, none, none] ∧ h'' = h3) (fun k hk => ?_) fun σ' h3 ⟨o, o0, o1, e1, e2⟩ => ?_
  · trivial
    refine ix_drawn dr (.inl er) 0 (w := 8) rfl fun v _ a0 a1 => ?_
    trivial
    cases e : (v == 7) with
    | true =>
      rw [if_pos rfl]
      exact ix_drawn dr (.inl er) 3 (w := 31) rfl fun v _ a0 a1 => hk _ _ ⟨v, a0, a1, rfl, rfl⟩
    | false =>
      rw [if_neg (by decide)]
      exact hk _ _ ⟨o, o0, by omega, rfl, rfl⟩
  subst e1 e2
  refine seq_ (fun σ' h3 => ∃ y, h'' y = none ∧ σ' = [some (.int c), some (.int p), some (.ref r), some (.int m), some (.int o), some (.ref y), none, none, none, none, none, none] ∧ h3 = hset h'' y (.lst [])) (fun k hk => ?_) fun σ' h3 ⟨y, ny, e1, e2⟩ => ?_
  · trivial
    exact ⟨by omega, fun y ny => hk _ _ ⟨y, ny, rfl, rfl⟩⟩
  subst e1 e2
  refine seq_ (fun σ' h3 => ∃ ws l6 l7 l8 l9 l10 l11, ws.all (isWay · m) = true ∧ ws.length ≤ 30 ∧ σ' = [some (.int c), some (.int p), some (.ref r), some (.int m), some (.int o), some (.ref y), l6, l7, l8, l9, l10, l11] ∧ Sub h h3 ∧ h3 y = some (.lst ws)) (fun k hk => ?_) fun σ' h3 ⟨ws, l6, l7, l8, l9, l10, l11, al, le, e1, sb, ey⟩ => ?_
  · refine .inl ?_
    trivial
    refine ⟨rfl, rng_one (by omega) (by omega) ?_⟩
    have sy : ∀ {u : Hc}, h'' y = none → Sub h u → h y = none := fun e _ => by
      cases g : h y with
      | none => rfl
      | some o => rw [sb y o g] at e; cases e
    have hy : h y = none := by
      cases g : h y with
      | none => rfl
      | some o => rw [sb y o g] at ny; cases ny
    have ry : r ≠ y := fun z => by rw [← z, er] at ny; cases ny
    refine for_rng (fun i σ' h3 => ∃ ws l6 l7 l8 l9 l10 l11, ws.all (isWay · m) = true ∧ ws.length ≤ i ∧ σ' = [some (.int c), some (.int p), some (.ref r), some (.int m), some (.int o), some (.ref y), l6, l7, l8, l9, l10, l11] ∧ Sub h h3 ∧ h3 y = some (.lst ws) ∧ h3 r = some (.lst (vs.map D.int)))
      (fun i σ' h3 lt ⟨ws, l6, l7, l8, l9, l10, l11, al, le, e1, sb, ey, er⟩ => ⟨True.intro, fun k hk => ?_⟩) (fun σ' h3 ⟨ws, l6, l7, l8, l9, l10, l11, al, le, e1, sb, ey, er⟩ => ⟨True.intro, hk _ _ ⟨ws, l6, l7, l8, l9, l10, l11, al, by omega, e1, sb, ey⟩⟩)
      ⟨[], none, none, none, none, none, none, rfl, Nat.le_refl _, rfl, sb.put hy, hset_same, by rw [hset_ne ry]; exact er⟩
    subst e1
    have i30 : i < 30 := by omega
    obtain ⟨w0, w1, w2, w3⟩ := of_decide_eq_true (List.all_eq_true.mp dW_at i (List.mem_range.mpr i30))
    obtain ⟨v0, g0, a0, b0⟩ := dr_at dr w0
    obtain ⟨v1, g1, a1, b1⟩ := dr_at dr w1
    obtain ⟨v2, g2, a2, b2⟩ := dr_at dr w2
    obtain ⟨v3, g3, a3, b3⟩ := dr_at dr w3
    have mg : ∀ {j : Nat} {v : Int}, vs[j]? = some v → (vs.map D.int)[j]? = some (.int v) := fun e => by rw [List.getElem?_map, e]; rfl
    have e0 : (0 : Int) + (i : Int) = (i : Int) := by omega
    have cm : CMul 4 (i : Int) := .inl (by omega)
    trivial
    rw [e0]
    refine ⟨cm, ⟨some _, rfl⟩, cm, some _, rfl, some _, rfl, vs.map D.int, .inl er, fun a na => ?_⟩
    rw [cut_four (mg g0) (mg g1) (mg g2) (mg g3)]
    refine ⟨_, .inr ⟨a, rfl, .inl hset_same⟩, rfl, _, _, rfl, _, _, rfl, _, _, rfl, _, _, rfl, rfl, ?_⟩
    trivial
    have ha : h a = none := by
      cases g : h a with
      | none => rfl
      | some o => rw [sb a o g] at na; cases na
    have sb1 := sb.put (o := .lst [.int v0, .int v1, .int v2, .int v3]) ha
    have ey1 := hs_keep (o := .lst [.int v0, .int v1, .int v2, .int v3]) ey na
    have er1 := hs_keep (o := .lst [.int v0, .int v1, .int v2, .int v3]) er na
    refine ⟨by omega, fun d nd => ?_⟩
    have hd : h d = none := by
      cases g : h d with
      | none => rfl
      | some o => rw [sb1 d o g] at nd; cases nd
    refine ix_all wordB (.inl hset_same) a1 b1 (by decide +kernel) fun w pw => ?_
    obtain ⟨x, rfl, wx⟩ := word_is pw
    refine ⟨⟨y, rfl, _, .inl (hs_keep ey1 nd)⟩, by omega, by omega, ix_chr (fun c => decide (c ∈ letters.cps.toList)) (by decide +kernel) a3 b3 (by decide +kernel) fun ch hc => ?_⟩
    try trivial
    refine ⟨by omega, y, ws, _, rfl, rfl, hs_keep ey1 nd, by omega, ?_⟩
    refine hk _ _ ⟨_, _, _, _, _, _, _, ?_, ?_, rfl, (sb1.put hd).put hy, hset_same, by rw [hset_ne ry]; exact hs_keep er1 nd⟩
    · rw [List.all_append, al, Bool.true_and, List.all_cons, List.all_nil, Bool.and_true]
      exact way_of (Int.emod_nonneg _ (by omega)) (Int.emod_lt_of_pos _ (by omega)) (Int.emod_nonneg _ (by omega)) (Int.emod_lt_of_pos _ (by omega)) (deed_of wx) (sign_of (of_decide_eq_true hc))
    · rw [List.length_append, List.length_singleton]
      omega
  subst e1
  trivial
  refine p10 y ws m h3 _ _ (.inl ey) al (by omega) fun us al2 nd le2 => ⟨by omega, .to sb (q _ (house_of m1 m2 (by omega) al2 nd))⟩
end Sr

set_option Elab.async false
set_option linter.all false
set_option maxRecDepth 100000
set_option autoImplicit false
set_option maxHeartbeats 1000000
/-! SrP9: ring houses -/
namespace Sr
open PySem L2
/-- the words that are opened -/
local macro_rules | `(tactic| trivial) => `(tactic| simp only [wpSs, wpS, wpE, wpEs, wpT, wpCs, wpTg, wpTgs, wpIt, wpIsi, wip, begn, List.map_cons, List.map_nil, List.length_cons, List.length_nil, List.replicate, List.nil_append, List.cons_append, List.append_nil, List.getElem?_cons_zero, List.getElem?_cons_succ, List.set_cons_zero, List.set_cons_succ,
  Option.some.injEq, exists_eq_left', exists_eq_left, Nat.sub_self, Nat.reduceSub, Nat.reduceAdd, exists_and_left, ↓reduceIte, Bool.not_true, Bool.not_false, Bool.false_eq_true, isTy_iff, tru_bl, tru_int, tru_tup, and_assoc, bl_inj, add_int, sub_int, mul_int, fdiv_int, mod_int, pow_int, add_tup, add_str, aug_add, aug_sub, eq_int, ne_int, eq_bl, ne_bl, eq_str, ne_str, lt_int, le_int, gt_int, ge_int, is_bl, isnot_bl])
/-! ### ring houses -/
def wy (r : Int) (x : Str) (o : Int) (s : Str) : D := .tup [.int r, .str x, .int o, .str s]
def ringW (one two : Nat) (d2 d3 : Bool) (f4 f5 f6 : Bool) : List D :=
  let m : Int := one + two + 2
  let l := [wy 0 "stay" 1 "a", wy 0 (if d2 then "zero" else "stay") (1 + one) "b"] ++ (List.range one).map (fun (k : Nat) => wy (1 + (k : Int)) "up" (1 + ((k : Int) + 1) % (one : Int)) "a") ++
    (List.range two).map (fun (k : Nat) => wy (1 + (one : Int) + (k : Int)) (if d3 then "down" else "up") (1 + (one : Int) + ((k : Int) + 1) % (two : Int)) "b") ++
    [wy 1 "stay" (m - 1) "c"] ++ [wy (1 + one) "stay" (m - 1) "a"] ++ (if f4 then [wy (m - 1) "down" (m - 1) "c"] else []) ++ (if f5 then [wy (m - 1) "zero" 0 "b"] else [])
  if f6 then l.reverse else l
def bools : List Bool := [true, false]
theorem ring_all : (List.range 5).all (fun a => (List.range 5).all fun b => bools.all fun d2 => bools.all fun d3 => bools.all fun f4 => bools.all fun f5 => bools.all fun f6 =>
    isHouse (.tup [.int ((a + 1 : Nat) + (b + 1 : Nat) + 2), .tup (ringW (a + 1) (b + 1) d2 d3 f4 f5 f6)])) = true := by decide +kernel
theorem bools_mem (b : Bool) : b ∈ bools := by cases b <;> decide
theorem ring_ok {one two : Nat} (h1 : 1 ≤ one) (h2 : one ≤ 5) (h3 : 1 ≤ two) (h4 : two ≤ 5) (d2 d3 f4 f5 f6 : Bool) : isHouse (.tup [.int ((one : Int) + two + 2), .tup (ringW one two d2 d3 f4 f5 f6)]) = true := by
  obtain ⟨a, rfl⟩ : ∃ a, one = a + 1 := ⟨one - 1, by omega⟩
  obtain ⟨b, rfl⟩ : ∃ b, two = b + 1 := ⟨two - 1, by omega⟩
  have t1 := List.all_eq_true.mp ring_all a (List.mem_range.mpr (by omega))
  have t2 := List.all_eq_true.mp t1 b (List.mem_range.mpr (by omega))
  have t3 := List.all_eq_true.mp t2 d2 (bools_mem _)
  have t4 := List.all_eq_true.mp t3 d3 (bools_mem _)
  have t5 := List.all_eq_true.mp t4 f4 (bools_mem _)
  have t6 := List.all_eq_true.mp t5 f5 (bools_mem _)
  exact List.all_eq_true.mp t6 f6 (bools_mem _)
end Sr

set_option Elab.async false
set_option linter.all false
set_option maxRecDepth 100000
set_option autoImplicit false
set_option maxHeartbeats 1000000
/-! SrP10: ring houses, walked -/
namespace Sr
open PySem L2
/-- the words that are opened -/
local macro_rules | `(tactic| trivial) => `(tactic| simp only [wpSs, wpS, wpE, wpEs, wpT, wpCs, wpTg, wpTgs, wpIt, wpIsi, wip, begn, List.map_cons, List.map_nil, List.length_cons, List.length_nil, List.replicate, List.nil_append, List.cons_append, List.append_nil, List.getElem?_cons_zero, List.getElem?_cons_succ, List.set_cons_zero, List.set_cons_succ,
  Option.some.injEq, exists_eq_left', exists_eq_left, Nat.sub_self, Nat.reduceSub, Nat.reduceAdd, exists_and_left, ↓reduceIte, Bool.not_true, Bool.not_false, Bool.false_eq_true, isTy_iff, tru_bl, tru_int, tru_tup, and_assoc, bl_inj, add_int, sub_int, mul_int, fdiv_int, mod_int, pow_int, add_tup, add_str, aug_add, aug_sub, eq_int, ne_int, eq_bl, ne_bl, eq_str, ne_str, lt_int, le_int, gt_int, ge_int, is_bl, isnot_bl])
theorem ix_two {h : Hc} {Q : Qv} {a : Addr} {x y : D} {v : Int} (r : RdL h a [x, y]) (v0 : 0 ≤ v) (v1 : v < 2) (q : Q (if v == 1 then y else x) h) : wpIx (.ref a) (.int v) h Q := by
  have : v = 0 ∨ v = 1 := by omega
  rcases this with rfl | rfl
  · exact ix_lst r (v := x) rfl q
  · exact ix_lst r (v := y) rfl q
theorem un_of {h h' : Hc} {a : Addr} (s : Sub h h') (n : h' a = none) : h a = none := by
  cases g : h a with
  | none => rfl
  | some o => rw [s a o g] at n; cases n
/-- what stands while a house's ways are told: the draws at r, the ways at y -/
structure Tell (h : Hc) (r y : Addr) (vs : List Int) (W : List D) (h' : Hc) : Prop where
  sb : Sub h h'
  er : h' r = some (.lst (vs.map D.int))
  ey : h' y = some (.lst W)
  ny : h y = none
theorem Tell.ne {h : Hc} {r y : Addr} {vs : List Int} {W : List D} {h' : Hc} (t : Tell h r y vs W h') (hr : h r = none ∨ True) (d : r ≠ y) : r ≠ y := d
theorem Tell.put {h : Hc} {r y : Addr} {vs : List Int} {W V : List D} {h' : Hc} (t : Tell h r y vs W h') (d : r ≠ y) : Tell h r y vs V (hset h' y (.lst V)) := ⟨t.sb.put t.ny, by rw [hset_ne d]; exact t.er, hset_same, t.ny⟩
theorem Tell.new {h : Hc} {r y a : Addr} {vs : List Int} {W : List D} {h' : Hc} {o : MO} (t : Tell h r y vs W h') (n : h' a = none) : Tell h r y vs W (hset h' a o) := ⟨t.sb.put (un_of t.sb n), hs_keep t.er n, hs_keep t.ey n, t.ny⟩
theorem Tell.app {h : Hc} {Q : Qv} {r y : Addr} {vs : List Int} {W : List D} {h' : Hc} {x : D} (t : Tell h r y vs W h') (l : W.length < 1000) (q : Q .non (hset h' y (.lst (W ++ [x])))) : wpMt .append (.ref y) [x] h' Q :=
  ⟨y, W, x, rfl, rfl, t.ey, by have := line_ge; omega, q⟩
def rW : List Int := [5, 5, 2, 2, 4, 4, 2]
theorem ok_ring {C : Nat → Fn} {L : Cls} (p8 : P8 C 8) {c p : Int} {h : Hc} {Q : Qv} {X : Qx} (p0 : 0 < p) (q : ∀ d, isHouse d = true → Q d h) : wpF C L ⟨2, 8, m_law_ring_house⟩ [.int c, .int p] h Q X := by
  have line := line_ge
  refine ⟨rfl, ?_⟩
  unfold m_law_ring_house
  refine seq_ (fun σ' h' => ∃ r vs, σ' = [some (.int c), some (.int p), some (.ref r), none, none, none, none, none] ∧ Sub h h' ∧ h' r = some (.lst (vs.map D.int)) ∧ Drawn rW vs) (fun k hk => ?_) fun σ' h' ⟨r, vs, e1, sb, er, dr⟩ => ?_
  · trivial
    refine ⟨by omega, fun f nf => p8 c p f rW _ _ _ (.inl (by rw [hset_same]; rfl)) (wid_of (by decide +kernel)) (by decide) p0 fun r vs nr dr => ?_⟩
    obtain ⟨_, nr0⟩ := hs_none nr
    exact hk _ _ ⟨r, vs, rfl, (((Sub.refl h).put nf).put nr0), hset_same, dr⟩
  subst e1
  obtain ⟨v0, g0, a0, b0⟩ := dr_at dr (k := 0) (w := 5) rfl
  obtain ⟨v1, g1, a1, b1⟩ := dr_at dr (k := 1) (w := 5) rfl
  obtain ⟨v2, g2, a2, b2⟩ := dr_at dr (k := 2) (w := 2) rfl
  obtain ⟨v3, g3, a3, b3⟩ := dr_at dr (k := 3) (w := 2) rfl
  have dx : ∀ {u : Hc} {Q : Qv} (k : Nat) {v : Int}, vs[k]? = some v → u r = some (.lst (vs.map D.int)) → Q (.int v) u → wpIx (.ref r) (.int (k : Int)) u Q := fun k v e eu q => ix_lst (.inl eu) (at_of (by omega) (by rw [Int.toNat_natCast, List.getElem?_map, e]; rfl)) q
  obtain ⟨one, eo⟩ : ∃ one : Nat, 1 + v0 = (one : Int) := ⟨(1 + v0).toNat, by omega⟩
  obtain ⟨two, et⟩ : ∃ two : Nat, 1 + v1 = (two : Int) := ⟨(1 + v1).toNat, by omega⟩
  refine seq_ (fun σ' h'' => σ' = [some (.int c), some (.int p), some (.ref r), some (.int one), some (.int two), none, none, none] ∧ h' = h'') (fun k hk => ?_) fun σ' h'' ⟨e1, e2⟩ => ?_
  · trivial
    refine dx 0 g0 er ?_
    try trivial
    refine dx 1 g1 er ?_
    try trivial
    rw [eo, et]
    exact ⟨_, _, rfl, hk _ _ ⟨rfl, rfl⟩⟩
  subst e1 e2
  refine seq_ (fun σ' h'' => σ' = [some (.int c), some (.int p), some (.ref r), some (.int one), some (.int two), some (.int ((one : Int) + two + 2)), none, none] ∧ h' = h'') (fun k hk => ?_) fun σ' h'' ⟨e1, e2⟩ => ?_
  · trivial
    exact hk _ _ ⟨rfl, rfl⟩
  subst e1 e2
  refine seq_ (fun σ' h'' => ∃ y, r ≠ y ∧ σ' = [some (.int c), some (.int p), some (.ref r), some (.int one), some (.int two), some (.int ((one : Int) + two + 2)), some (.ref y), none] ∧
      Tell h r y vs [wy 0 "stay" 1 "a", wy 0 (if v2 == 1 then "zero" else "stay") (1 + one) "b"] h'') (fun k hk => ?_) fun σ' h'' ⟨y, ry, e1, t⟩ => ?_
  · trivial
    refine ⟨by omega, by omega, fun a na => dx 2 g2 (hs_keep er na) (ix_two (.inl hset_same) a2 b2 ?_)⟩
    refine ⟨by omega, by omega, fun y ny => hk _ _ ⟨y, (fun z => by rw [← z, hs_keep er na] at ny; cases ny), rfl, ?_⟩⟩
    have ny0 := un_of (sb.put (un_of sb na)) ny
    refine ⟨(sb.put (un_of sb na)).put ny0, hs_keep (hs_keep er na) ny, ?_, ny0⟩
    rw [hset_same]
    cases v2 == 1 <;> rfl
  subst e1
  have e0 : ∀ i : Nat, (0 : Int) + (i : Int) = (i : Int) := fun i => by omega
  let W0 : List D := [wy 0 "stay" 1 "a", wy 0 (if v2 == 1 then "zero" else "stay") (1 + one) "b"]
  let W1 : Nat → List D := fun n => W0 ++ (List.range n).map (fun (k : Nat) => wy (1 + (k : Int)) "up" (1 + ((k : Int) + 1) % (one : Int)) "a")
  have len1 : ∀ n, (W1 n).length = 2 + n := fun n => by simp [W1, W0]; omega
  have nx1 : ∀ n : Nat, W1 n ++ [wy (1 + (n : Int)) "up" (1 + ((n : Int) + 1) % (one : Int)) "a"] = W1 (n + 1) := fun n => by simp [W1, List.range_succ]
  refine seq_ (fun σ' h3 => ∃ l7, σ' = [some (.int c), some (.int p), some (.ref r), some (.int one), some (.int two), some (.int ((one : Int) + two + 2)), some (.ref y), l7] ∧ Tell h r y vs (W1 one) h3) (fun k hk => ?_) fun σ' h3 ⟨l7, e1, t⟩ => ?_
  · refine .inl ?_
    trivial
    refine ⟨rfl, rng_one (by omega) (by omega) ?_⟩
    rw [Int.toNat_natCast]
    refine for_rng (fun i σ' h3 => ∃ l7, σ' = [some (.int c), some (.int p), some (.ref r), some (.int one), some (.int two), some (.int ((one : Int) + two + 2)), some (.ref y), l7] ∧ Tell h r y vs (W1 i) h3)
      (fun i σ' h3 lt ⟨l7, e1, t⟩ => ⟨True.intro, fun k hk => ?_⟩) (fun σ' h3 ⟨l7, e1, t⟩ => ⟨True.intro, hk _ _ ⟨l7, e1, t⟩⟩) ⟨none, rfl, t⟩
    subst e1
    trivial
    rw [e0]
    refine ⟨⟨y, rfl, _, .inl t.ey⟩, by omega, by omega, t.app (by rw [len1]; omega) (hk _ _ ⟨_, rfl, ?_⟩)⟩
    rw [← nx1 i]
    exact t.put ry
  subst e1
  let W2 : Nat → List D := fun n => W1 one ++ (List.range n).map (fun (k : Nat) => wy (1 + (one : Int) + (k : Int)) (if v3 == 1 then "down" else "up") (1 + (one : Int) + ((k : Int) + 1) % (two : Int)) "b")
  have len2 : ∀ n, (W2 n).length = 2 + one + n := fun n => by simp [W2, W1, W0]; omega
  have nx2 : ∀ n : Nat, W2 n ++ [wy (1 + (one : Int) + (n : Int)) (if v3 == 1 then "down" else "up") (1 + (one : Int) + ((n : Int) + 1) % (two : Int)) "b"] = W2 (n + 1) := fun n => by simp [W2, List.range_succ]
  refine seq_ (fun σ' h3 => ∃ l7, σ' = [some (.int c), some (.int p), some (.ref r), some (.int one), some (.int two), some (.int ((one : Int) + two + 2)), some (.ref y), l7] ∧ Tell h r y vs (W2 two) h3) (fun k hk => ?_) fun σ' h3 ⟨l7, e1, t⟩ => ?_
  · refine .inl ?_
    trivial
    refine ⟨rfl, rng_one (by omega) (by omega) ?_⟩
    rw [Int.toNat_natCast]
    refine for_rng (fun i σ' h3 => ∃ l7, σ' = [some (.int c), some (.int p), some (.ref r), some (.int one), some (.int two), some (.int ((one : Int) + two + 2)), some (.ref y), l7] ∧ Tell h r y vs (W2 i) h3)
      (fun i σ' h3 lt ⟨l7, e1, t⟩ => ⟨True.intro, fun k hk => ?_⟩) (fun σ' h3 ⟨l7, e1, t⟩ => ⟨True.intro, hk _ _ ⟨l7, e1, t⟩⟩) ⟨l7, rfl, by simpa [W2] using t⟩
    subst e1
    trivial
    rw [e0]
    refine ⟨⟨y, rfl, _, .inl t.ey⟩, by omega, fun a na => ?_⟩
    have t1 := t.new (o := .lst [.str "up", .str "down"]) na
    refine dx 3 g3 t1.er (ix_two (.inl hset_same) a3 b3 ?_)
    refine ⟨by omega, by omega, t1.app (by rw [len2]; omega) (hk _ _ ⟨_, rfl, ?_⟩)⟩
    have e : (if (v3 == 1) = true then D.str "down" else D.str "up") = .str (if v3 == 1 then "down" else "up") := by
      cases v3 == 1 <;> rfl
    rw [e, ← nx2 i]
    exact t1.put ry
  subst e1
  generalize hW : W2 two = Wn at t
  have lW : Wn.length = 2 + one + two := by rw [← hW, len2]
  refine seq_ (fun σ' h4 => σ' = [some (.int c), some (.int p), some (.ref r), some (.int one), some (.int two), some (.int ((one : Int) + two + 2)), some (.ref y), l7] ∧ Tell h r y vs (Wn ++ [wy 1 "stay" ((one : Int) + two + 2 - 1) "c"]) h4) (fun k hk => ?_) fun σ' h4 ⟨e1, t⟩ => ?_
  · trivial
    exact ⟨⟨y, rfl, _, .inl t.ey⟩, by omega, t.app (by omega) (hk _ _ ⟨rfl, t.put ry⟩)⟩
  subst e1
  refine seq_ (fun σ' h5 => σ' = [some (.int c), some (.int p), some (.ref r), some (.int one), some (.int two), some (.int ((one : Int) + two + 2)), some (.ref y), l7] ∧ Tell h r y vs (Wn ++ [wy 1 "stay" ((one : Int) + two + 2 - 1) "c"] ++ [wy (1 + one) "stay" ((one : Int) + two + 2 - 1) "a"]) h5) (fun k hk => ?_) fun σ' h5 ⟨e1, t⟩ => ?_
  · trivial
    exact ⟨⟨y, rfl, _, .inl t.ey⟩, by omega, t.app (by simp; omega) (hk _ _ ⟨rfl, t.put ry⟩)⟩
  subst e1
  obtain ⟨v4, g4, a4, b4⟩ := dr_at dr (k := 4) (w := 4) rfl
  obtain ⟨v5, g5, a5, b5⟩ := dr_at dr (k := 5) (w := 4) rfl
  obtain ⟨v6, g6, a6, b6⟩ := dr_at dr (k := 6) (w := 2) rfl
  generalize hW2 : Wn ++ [wy 1 "stay" ((one : Int) + two + 2 - 1) "c"] ++ [wy (1 + one) "stay" ((one : Int) + two + 2 - 1) "a"] = Wm at t
  have lW2 : Wm.length = 4 + one + two := by rw [← hW2]; simp; omega
  refine seq_ (fun σ' h6 => σ' = [some (.int c), some (.int p), some (.ref r), some (.int one), some (.int two), some (.int ((one : Int) + two + 2)), some (.ref y), l7] ∧ Tell h r y vs (Wm ++ (if (v4 == 0) = true then [wy ((one : Int) + two + 2 - 1) "down" ((one : Int) + two + 2 - 1) "c"] else [])) h6) (fun k hk => ?_) fun σ' h6 ⟨e1, t⟩ => ?_
  · trivial
    refine dx 4 g4 t.er ?_
    try trivial
    cases ec : (v4 == 0) with
    | true => rw [ec] at hk; exact ⟨⟨y, rfl, _, .inl t.ey⟩, by omega, t.app (by omega) (hk _ _ ⟨rfl, t.put ry⟩)⟩
    | false => rw [ec] at hk; exact hk _ _ ⟨rfl, by simpa using t⟩
  subst e1
  generalize hW3 : Wm ++ (if (v4 == 0) = true then [wy ((one : Int) + two + 2 - 1) "down" ((one : Int) + two + 2 - 1) "c"] else []) = Wk at t
  have lW3 : Wk.length ≤ 5 + one + two := by
    rw [← hW3]
    cases v4 == 0 <;> simp <;> omega
  refine seq_ (fun σ' h6 => σ' = [some (.int c), some (.int p), some (.ref r), some (.int one), some (.int two), some (.int ((one : Int) + two + 2)), some (.ref y), l7] ∧ Tell h r y vs (Wk ++ (if (v5 == 0) = true then [wy ((one : Int) + two + 2 - 1) "zero" 0 "b"] else [])) h6) (fun k hk => ?_) fun σ' h7 ⟨e1, t⟩ => ?_
  · trivial
    refine dx 5 g5 t.er ?_
    try trivial
    cases ec : (v5 == 0) with
    | true => rw [ec] at hk; exact ⟨⟨y, rfl, _, .inl t.ey⟩, by omega, t.app (by omega) (hk _ _ ⟨rfl, t.put ry⟩)⟩
    | false => rw [ec] at hk; exact hk _ _ ⟨rfl, by simpa using t⟩
  subst e1
  have all : Wk ++ (if (v5 == 0) = true then [wy ((one : Int) + two + 2 - 1) "zero" 0 "b"] else []) = ringW one two (v2 == 1) (v3 == 1) (v4 == 0) (v5 == 0) false := by
    rw [← hW3, ← hW2, ← hW]
    rfl
  rw [all] at t
  refine seq_ (fun σ' h6 => ∃ y2, σ' = [some (.int c), some (.int p), some (.ref r), some (.int one), some (.int two), some (.int ((one : Int) + two + 2)), some (.ref y2), l7] ∧ Sub h h6 ∧ h6 y2 = some (.lst (ringW one two (v2 == 1) (v3 == 1) (v4 == 0) (v5 == 0) (v6 == 1)))) (fun k hk => ?_) fun σ' h8 ⟨y2, e1, sb, ey⟩ => ?_
  · trivial
    refine dx 6 g6 t.er ?_
    try trivial
    cases ec : (v6 == 1) with
    | true => rw [ec] at hk; exact ⟨y, rfl, _, .inl t.ey, fun a na => hk _ _ ⟨a, rfl, t.sb.put (un_of t.sb na), hset_same⟩⟩
    | false => rw [ec] at hk; exact hk _ _ ⟨y, rfl, t.sb, t.ey⟩
  subst e1
  trivial
  refine ⟨_, _, rfl, .inr ⟨y2, rfl, .inl ey⟩, .here ⟨by omega, .to sb (q _ ?_)⟩⟩
  exact ring_ok (by omega) (by omega) (by omega) (by omega) _ _ _ _ _
end Sr

set_option Elab.async false
set_option linter.all false
set_option maxRecDepth 100000
set_option autoImplicit false
set_option maxHeartbeats 1000000
/-! SrP11: gate houses, houses -/
namespace Sr
open PySem L2
/-- the words that are opened -/
local macro_rules | `(tactic| trivial) => `(tactic| simp only [wpSs, wpS, wpE, wpEs, wpT, wpCs, wpTg, wpTgs, wpIt, wpIsi, wip, begn, List.map_cons, List.map_nil, List.length_cons, List.length_nil, List.replicate, List.nil_append, List.cons_append, List.append_nil, List.getElem?_cons_zero, List.getElem?_cons_succ, List.set_cons_zero, List.set_cons_succ,
  Option.some.injEq, exists_eq_left', exists_eq_left, Nat.sub_self, Nat.reduceSub, Nat.reduceAdd, exists_and_left, ↓reduceIte, Bool.not_true, Bool.not_false, Bool.false_eq_true, isTy_iff, tru_bl, tru_int, tru_tup, and_assoc, bl_inj, add_int, sub_int, mul_int, fdiv_int, mod_int, pow_int, add_tup, add_str, aug_add, aug_sub, eq_int, ne_int, eq_bl, ne_bl, eq_str, ne_str, lt_int, le_int, gt_int, ge_int, is_bl, isnot_bl])
def gW : List Int := [6, 5, 6, 5, 2, 2, 2]
theorem signB : ("ab" : Str).cps.toList.all (fun c => decide (c ∈ letters.cps.toList)) = true := by decide +kernel
theorem sg_a : isSign (.str "a") = true := by decide +kernel
theorem sg_b : isSign (.str "b") = true := by decide +kernel
theorem sg_c : isSign (.str "c") = true := by decide +kernel
theorem dd_up : isDeed (.str "up") = true := by decide +kernel
theorem dd_down : isDeed (.str "down") = true := by decide +kernel
theorem dd_stay : isDeed (.str "stay") = true := by decide +kernel
theorem dd_zero : isDeed (.str "zero") = true := by decide +kernel
theorem all_app {m : Int} {W : List D} {x : D} (a : W.all (isWay · m) = true) (b : isWay x m = true) : (W ++ [x]).all (isWay · m) = true := by
  rw [List.all_append, a, Bool.true_and, List.all_cons, b]; rfl
theorem ok_gate {C : Nat → Fn} {L : Cls} (p8 : P8 C 8) (p10 : P10 C 10) {c p : Int} {h : Hc} {Q : Qv} {X : Qx} (p0 : 0 < p) (q : ∀ d, isHouse d = true → Q d h) : wpF C L ⟨2, 8, m_law_gate_house⟩ [.int c, .int p] h Q X := by
  have line := line_ge
  refine ⟨rfl, ?_⟩
  unfold m_law_gate_house
  refine seq_ (fun σ' h' => ∃ r vs, σ' = [some (.int c), some (.int p), some (.ref r), none, none, none, none, none] ∧ Sub h h' ∧ h' r = some (.lst (vs.map D.int)) ∧ Drawn gW vs) (fun k hk => ?_) fun σ' h' ⟨r, vs, e1, sb, er, dr⟩ => ?_
  · trivial
    refine ⟨by omega, fun f nf => p8 c p f gW _ _ _ (.inl (by rw [hset_same]; rfl)) (wid_of (by decide +kernel)) (by decide) p0 fun r vs nr dr => ?_⟩
    obtain ⟨_, nr0⟩ := hs_none nr
    exact hk _ _ ⟨r, vs, rfl, (((Sub.refl h).put nf).put nr0), hset_same, dr⟩
  subst e1
  obtain ⟨v0, g0, a0, b0⟩ := dr_at dr (k := 0) (w := 6) rfl
  obtain ⟨v1, g1, a1, b1⟩ := dr_at dr (k := 1) (w := 5) rfl
  obtain ⟨v2, g2, a2, b2⟩ := dr_at dr (k := 2) (w := 6) rfl
  obtain ⟨v3, g3, a3, b3⟩ := dr_at dr (k := 3) (w := 5) rfl
  obtain ⟨v4, g4, a4, b4⟩ := dr_at dr (k := 4) (w := 2) rfl
  obtain ⟨v5, g5, a5, b5⟩ := dr_at dr (k := 5) (w := 2) rfl
  obtain ⟨v6, g6, a6, b6⟩ := dr_at dr (k := 6) (w := 2) rfl
  have dx : ∀ {u : Hc} {Q : Qv} (k : Nat) {v : Int}, vs[k]? = some v → u r = some (.lst (vs.map D.int)) → Q (.int v) u → wpIx (.ref r) (.int (k : Int)) u Q := fun k v e eu q => ix_lst (.inl eu) (at_of (by omega) (by rw [Int.toNat_natCast, List.getElem?_map, e]; rfl)) q
  obtain ⟨up, eo⟩ : ∃ one : Nat, 1 + v0 = (one : Int) := ⟨(1 + v0).toNat, by omega⟩
  obtain ⟨dn, et⟩ : ∃ two : Nat, 1 + v1 = (two : Int) := ⟨(1 + v1).toNat, by omega⟩
  have u1 : 1 ≤ up ∧ up ≤ 6 := by omega
  have n1 : 1 ≤ dn ∧ dn ≤ 5 := by omega
  refine seq_ (fun σ' h'' => σ' = [some (.int c), some (.int p), some (.ref r), some (.int up), some (.int dn), none, none, none] ∧ h' = h'') (fun k hk => ?_) fun σ' h'' ⟨e1, e2⟩ => ?_
  · trivial
    refine dx 0 g0 er ?_
    try trivial
    refine dx 1 g1 er ?_
    try trivial
    rw [eo, et]
    exact ⟨_, _, rfl, hk _ _ ⟨rfl, rfl⟩⟩
  subst e1 e2
  refine seq_ (fun σ' h'' => σ' = [some (.int c), some (.int p), some (.ref r), some (.int up), some (.int dn), some (.int ((up : Int) + dn + 1)), none, none] ∧ h' = h'') (fun k hk => ?_) fun σ' h'' ⟨e1, e2⟩ => ?_
  · trivial
    exact hk _ _ ⟨rfl, rfl⟩
  subst e1 e2
  generalize hm : (up : Int) + dn + 1 = m
  refine seq_ (fun σ' h'' => ∃ y, r ≠ y ∧ σ' = [some (.int c), some (.int p), some (.ref r), some (.int up), some (.int dn), some (.int m), some (.ref y), none] ∧ Tell h r y vs [] h'') (fun k hk => ?_) fun σ' h'' ⟨y, ry, e1, t⟩ => ?_
  · trivial
    exact ⟨by omega, fun y ny => hk _ _ ⟨y, (fun z => by rw [← z, er] at ny; cases ny), rfl, ⟨sb.put (un_of sb ny), hs_keep er ny, hset_same, un_of sb ny⟩⟩⟩
  subst e1
  have e0 : ∀ i : Nat, (0 : Int) + (i : Int) = (i : Int) := fun i => by omega
  refine seq_ (fun σ' h3 => ∃ l7 W, W.all (isWay · m) = true ∧ W.length ≤ up ∧ σ' = [some (.int c), some (.int p), some (.ref r), some (.int up), some (.int dn), some (.int m), some (.ref y), l7] ∧ Tell h r y vs W h3) (fun k hk => ?_) fun σ' h3 ⟨l7, W, al, le, e1, t⟩ => ?_
  · refine .inl ?_
    trivial
    refine ⟨rfl, rng_one (by omega) (by omega) ?_⟩
    rw [Int.toNat_natCast]
    refine for_rng (fun i σ' h3 => ∃ l7 W, W.all (isWay · m) = true ∧ W.length ≤ i ∧ σ' = [some (.int c), some (.int p), some (.ref r), some (.int up), some (.int dn), some (.int m), some (.ref y), l7] ∧ Tell h r y vs W h3)
      (fun i σ' h3 lt ⟨l7, W, al, le, e1, t⟩ => ⟨True.intro, fun k hk => ?_⟩) (fun σ' h3 ⟨l7, W, al, le, e1, t⟩ => ⟨True.intro, hk _ _ ⟨l7, W, al, le, e1, t⟩⟩) ⟨none, [], rfl, Nat.le_refl _, rfl, t⟩
    subst e1
    trivial
    rw [e0]
    refine ⟨⟨y, rfl, _, .inl t.ey⟩, by omega, dx 4 g4 t.er (ix_chr (fun c => decide (c ∈ letters.cps.toList)) (by decide +kernel) a4 b4 signB fun ch hc => ?_)⟩
    try trivial
    have z1 := Int.emod_nonneg ((i : Int) + 1) (by omega : (up : Int) ≠ 0)
    have z2 := Int.emod_lt_of_pos ((i : Int) + 1) (by omega : 0 < (up : Int))
    exact ⟨by omega, t.app (by omega) (hk _ _ ⟨_, _, all_app al (way_of (by omega) (by omega) z1 (by omega) dd_up (sign_of (of_decide_eq_true hc))), by rw [List.length_append, List.length_singleton]; omega, rfl, t.put ry⟩)⟩
  subst e1
  refine seq_ (fun σ' h4 => ∃ W, W.all (isWay · m) = true ∧ W.length ≤ up + 1 ∧ σ' = [some (.int c), some (.int p), some (.ref r), some (.int up), some (.int dn), some (.int m), some (.ref y), l7] ∧ Tell h r y vs W h4) (fun k hk => ?_) fun σ' h4 ⟨W, al, le, e1, t⟩ => ?_
  · trivial
    refine ⟨⟨y, rfl, _, .inl t.ey⟩, dx 2 g2 t.er ?_⟩
    try trivial
    have z1 := Int.emod_nonneg v2 (by omega : (up : Int) ≠ 0)
    have z2 := Int.emod_lt_of_pos v2 (by omega : 0 < (up : Int))
    exact ⟨by omega, by omega, t.app (by omega) (hk _ _ ⟨_, all_app al (way_of z1 (by omega) (by omega) (by omega) dd_stay sg_b), by rw [List.length_append, List.length_singleton]; omega, rfl, t.put ry⟩)⟩
  subst e1
  refine seq_ (fun σ' h3 => ∃ l7 W, W.all (isWay · m) = true ∧ W.length ≤ up + 1 + dn ∧ σ' = [some (.int c), some (.int p), some (.ref r), some (.int up), some (.int dn), some (.int m), some (.ref y), l7] ∧ Tell h r y vs W h3) (fun k hk => ?_) fun σ' h5 ⟨l7, W, al, le, e1, t⟩ => ?_
  · refine .inl ?_
    trivial
    refine ⟨rfl, rng_one (by omega) (by omega) ?_⟩
    rw [Int.toNat_natCast]
    refine for_rng (fun i σ' h3 => ∃ l7 W, W.all (isWay · m) = true ∧ W.length ≤ up + 1 + i ∧ σ' = [some (.int c), some (.int p), some (.ref r), some (.int up), some (.int dn), some (.int m), some (.ref y), l7] ∧ Tell h r y vs W h3)
      (fun i σ' h3 lt ⟨l7, W, al, le, e1, t⟩ => ⟨True.intro, fun k hk => ?_⟩) (fun σ' h3 ⟨l7, W, al, le, e1, t⟩ => ⟨True.intro, hk _ _ ⟨l7, W, al, le, e1, t⟩⟩) ⟨_, _, al, le, rfl, t⟩
    subst e1
    trivial
    rw [e0]
    have z1 := Int.emod_nonneg ((i : Int) + 1) (by omega : (dn : Int) ≠ 0)
    have z2 := Int.emod_lt_of_pos ((i : Int) + 1) (by omega : 0 < (dn : Int))
    exact ⟨⟨y, rfl, _, .inl t.ey⟩, by omega, by omega, t.app (by omega) (hk _ _ ⟨_, _, all_app al (way_of (by omega) (by omega) (by omega) (by omega) dd_down sg_a), by rw [List.length_append, List.length_singleton]; omega, rfl, t.put ry⟩)⟩
  subst e1
  refine seq_ (fun σ' h4 => ∃ W, W.all (isWay · m) = true ∧ W.length ≤ up + dn + 2 ∧ σ' = [some (.int c), some (.int p), some (.ref r), some (.int up), some (.int dn), some (.int m), some (.ref y), l7] ∧ Tell h r y vs W h4) (fun k hk => ?_) fun σ' h6 ⟨W, al, le, e1, t⟩ => ?_
  · trivial
    refine ⟨⟨y, rfl, _, .inl t.ey⟩, dx 3 g3 t.er ?_⟩
    try trivial
    have z1 := Int.emod_nonneg v3 (by omega : (dn : Int) ≠ 0)
    have z2 := Int.emod_lt_of_pos v3 (by omega : 0 < (dn : Int))
    exact ⟨by omega, by omega, t.app (by omega) (hk _ _ ⟨_, all_app al (way_of (by omega) (by omega) (by omega) (by omega) dd_zero sg_c), by rw [List.length_append, List.length_singleton]; omega, rfl, t.put ry⟩)⟩
  subst e1
  refine seq_ (fun σ' h4 => ∃ W, W.all (isWay · m) = true ∧ W.length ≤ up + dn + 3 ∧ σ' = [some (.int c), some (.int p), some (.ref r), some (.int up), some (.int dn), some (.int m), some (.ref y), l7] ∧ Tell h r y vs W h4) (fun k hk => ?_) fun σ' h7 ⟨W, al, le, e1, t⟩ => ?_
  · trivial
    refine ⟨⟨y, rfl, _, .inl t.ey⟩, by omega, fun a na => ?_⟩
    have t1 := t.new (o := .lst [.str "up", .str "stay"]) na
    refine dx 5 g5 t1.er (ix_all wordB (.inl hset_same) a5 b5 (by decide +kernel) fun w pw => ?_)
    obtain ⟨x, rfl, wx⟩ := word_is pw
    refine ⟨by omega, fun d nd => ?_⟩
    have t2 := t1.new (o := .lst [.int 0, .int (m - 1)]) nd
    refine dx 6 g6 t2.er (ix_two (.inl hset_same) a6 b6 ?_)
    have e : (if (v6 == 1) = true then D.int (m - 1) else D.int 0) = .int (if v6 == 1 then m - 1 else 0) := by
      cases v6 == 1 <;> rfl
    rw [e]
    refine ⟨by omega, t2.app (by omega) (hk _ _ ⟨_, all_app al (way_of (by omega) (by omega) ?_ ?_ (deed_of wx) sg_b), by rw [List.length_append, List.length_singleton]; omega, rfl, t2.put ry⟩)⟩
    · split <;> omega
    · split <;> omega
  subst e1
  trivial
  refine p10 y W m h7 _ _ (.inl t.ey) al (by omega) fun us al2 nd le2 => ⟨by omega, .to t.sb (q _ (house_of (by omega) (by omega) (by omega) al2 nd))⟩
/-! ### a house -/
theorem ok_house {C : Nat → Fn} {L : Cls} (p8 : P8 C 8) (p9 : P9 C 9) (p11 : PH C 11) (p12 : PH C 12) (p13 : PH C 13) {c p : Int} {h : Hc} {Q : Qv} {X : Qx} (p0 : 0 < p) (q : ∀ d, isHouse d = true → Q d h) : wpF C L ⟨2, 4, m_law_house⟩ [.int c, .int p] h Q X := by
  have line := line_ge
  refine ⟨rfl, ?_⟩
  unfold m_law_house
  refine seq_ (fun σ' h' => ∃ v, σ' = [some (.int c), some (.int p), some (.int v), none] ∧ Sub h h') (fun k hk => ?_) fun σ' h' ⟨v, e1, sb⟩ => ?_
  · trivial
    refine ⟨by omega, fun f nf => p8 c p f [8] _ _ _ (.inl (by rw [hset_same]; rfl)) (wid_of (by decide +kernel)) (by decide) p0 fun r vs nr dr => ?_⟩
    obtain ⟨_, nr0⟩ := hs_none nr
    refine ix_drawn dr (.inl hset_same) 0 (w := 8) rfl fun v _ _ _ => hk _ _ ⟨v, rfl, ((Sub.refl h).put nf).put nr0⟩
  subst e1
  refine seq_ (fun σ' h'' => ∃ l, σ' = [some (.int c), some (.int p), some (.int v), some (.int l)] ∧ h' = h'') (fun k hk => ?_) fun σ' h'' ⟨l, e1, e2⟩ => ?_
  · trivial
    exact p9 c 8 h' _ _ (by decide) (by decide) fun i => hk _ _ ⟨i, rfl, rfl⟩
  subst e1 e2
  trivial
  by_cases e : v = 6
  · rw [beq_iff_eq.mpr e, if_pos rfl]
    exact p12 l p h' _ _ p0 fun d hd => .to sb (q d hd)
  · rw [beq_eq_false_iff_ne.mpr e, if_neg (by decide)]
    by_cases e2 : v = 7
    · rw [beq_iff_eq.mpr e2, if_pos rfl]
      exact p13 l p h' _ _ p0 fun d hd => .to sb (q d hd)
    · rw [beq_eq_false_iff_ne.mpr e2, if_neg (by decide)]
      exact p11 l p h' _ _ p0 fun d hd => .to sb (q d hd)
end Sr

set_option Elab.async false
set_option linter.all false
set_option maxRecDepth 100000
set_option autoImplicit false
set_option maxHeartbeats 1000000
/-! SrP12: the law's own look at a way -/
namespace Sr
open PySem L2
/-- the words that are opened -/
local macro_rules | `(tactic| trivial) => `(tactic| simp only [wpSs, wpS, wpE, wpEs, wpT, wpCs, wpTg, wpTgs, wpIt, wpIsi, wip, begn, List.map_cons, List.map_nil, List.length_cons, List.length_nil, List.replicate, List.nil_append, List.cons_append, List.append_nil, List.getElem?_cons_zero, List.getElem?_cons_succ, List.set_cons_zero, List.set_cons_succ,
  Option.some.injEq, exists_eq_left', exists_eq_left, Nat.sub_self, Nat.reduceSub, Nat.reduceAdd, exists_and_left, ↓reduceIte, Bool.not_true, Bool.not_false, Bool.false_eq_true, isTy_iff, tru_bl, tru_int, tru_tup, and_assoc, bl_inj, add_int, sub_int, mul_int, fdiv_int, mod_int, pow_int, add_tup, add_str, aug_add, aug_sub, eq_int, ne_int, eq_bl, ne_bl, eq_str, ne_str, lt_int, le_int, gt_int, ge_int, is_bl, isnot_bl])
theorem ok_lwhole {C : Nat → Fn} {L : Cls} {d : D} {h : Hc} {Q : Qv} {X : Qx} (k : Kn h d) (q : Q (.bl (isWhole d)) h) : wpF C L ⟨1, 1, m_law_whole⟩ [d] h Q X := by
  refine ⟨rfl, ?_⟩
  unfold m_law_whole
  try trivial
  refine ⟨k, ?_⟩
  cases d <;> first | exact .here q | exact ⟨k, .here q⟩
def deeds : List D := [.str "up", .str "down", .str "stay", .str "zero"]
theorem deed_in (x : Str) : inF (.str x) deeds = isDeed (.str x) := by
  rw [Bool.eq_iff_iff]
  constructor
  · intro h
    refine deed_of ?_
    have h : ((("up" : Str) == x) || ((("down" : Str) == x) || ((("stay" : Str) == x) || ((("zero" : Str) == x) || false)))) = true := h
    simp only [Bool.or_eq_true, beq_iff_eq, Bool.or_false] at h
    rcases h with h | h | h | h
    · exact .inl h.symm
    · exact .inr (.inl h.symm)
    · exact .inr (.inr (.inl h.symm))
    · exact .inr (.inr (.inr h.symm))
  · intro h
    show ((("up" : Str) == x) || ((("down" : Str) == x) || ((("stay" : Str) == x) || ((("zero" : Str) == x) || false)))) = true
    simp only [Bool.or_eq_true, beq_iff_eq, Bool.or_false]
    rcases deed_word h with h | h | h | h
    · exact .inl h.symm
    · exact .inr (.inl h.symm)
    · exact .inr (.inr (.inl h.symm))
    · exact .inr (.inr (.inr h.symm))
theorem min_int {h : Hc} {Q : Qv} {i j : Int} (q : Q (.int (if j < i then j else i)) h) : wpBi .min [.int i, .int j] h Q := .inl ⟨i, j, rfl, q⟩
theorem max_int {h : Hc} {Q : Qv} {i j : Int} (q : Q (.int (if j > i then j else i)) h) : wpBi .max [.int i, .int j] h Q := .inl ⟨i, j, rfl, q⟩
theorem house_none {m : Int} {ws : List D} {x : D} (hx : x ∈ ws) (w : isWay x m = false) : isHouse (.tup [.int m, .tup ws]) = false := by
  show (decide (1 ≤ m) && decide (m ≤ 12) && decide (ws.length ≤ 100) && ws.all (isWay · m) && decide (ws.filterMap kT).Nodup) = false
  have : ws.all (isWay · m) = false := by
    cases e : ws.all (isWay · m) with
    | false => rfl
    | true => rw [List.all_eq_true.mp e x hx] at w; cases w
  rw [this, Bool.and_false, Bool.false_and]
theorem wayB {r e o s : D} {m : Int} : isWay (.tup [r, e, o, s]) m = (isRoom r m && isRoom o m && isSign s && isDeed e) := rfl
/-- the look at one way -/
theorem look_way {C : Nat → Fn} {L : Cls} (p15 : P1 C 15) {x b : D} {t : D} {m : Int} {h : Hc} {K : Kt} (g : Gd h x) (yes : isWay x m = true → K.nx [some t, some (.int m), some b, some x] h) (no : isWay x m = false → K.rt (.bl false) h) :
    wpSs ⟨C, L, none⟩ (.cons (.ifs (.or (.not (.isi (.var 3) [.tuple])) (.or (.cmp .ne (.bi .len (.cons (.var 3) .nil)) (.con (.int 4))) (.or (.not (.call 15 (.cons (.ix (.var 3) (.con (.int 0))) .nil))) (.not (.call 15 (.cons (.ix (.var 3) (.con (.int 2))) .nil)))))) 
      (.cons (.ret (.con (.bl false))) .nil) .nil) 
    (.cons (.ifs (.or (.cmp .lt (.bi .min (.cons (.ix (.var 3) (.con (.int 0))) (.cons (.ix (.var 3) (.con (.int 2))) .nil))) (.con (.int 0))) (.or (.cmp .ge (.bi .max (.cons (.ix (.var 3) (.con (.int 0))) (.cons (.ix (.var 3) (.con (.int 2))) .nil))) (.var 1)) (.not (.isi (.ix (.var 3) (.con (.int 1))) [.str])))) 
      (.cons (.ret (.con (.bl false))) .nil) .nil) 
    (.cons (.ifs (.or (.cmp .notin (.ix (.var 3) (.con (.int 1))) (.tup (.cons (.con (.str "up")) (.cons (.con (.str "down")) (.cons (.con (.str "stay")) (.cons (.con (.str "zero")) .nil)))))) (.not (.isi (.ix (.var 3) (.con (.int 3))) [.str]))) 
      (.cons (.ret (.con (.bl false))) .nil) .nil) 
    (.cons (.ifs (.or (.cmp .ne (.bi .len (.cons (.ix (.var 3) (.con (.int 3))) .nil)) (.con (.int 1))) (.cmp .notin (.ix (.var 3) (.con (.int 3))) (.con (.str "abcdefghijklmnopqrstuvwxyz")))) 
      (.cons (.ret (.con (.bl false))) .nil) .nil) .nil)))) K [some t, some (.int m), some b, some x] h := by
  have line := line_ge
  try trivial
  refine ⟨g.kn, ?_⟩
  cases x with
  | tup xs =>
    show if (!true) = true then _ else _
    rw [if_neg (by decide)]
    refine len_tup (.here ?_)
    try trivial
    by_cases e : xs.length = 4
    · rw [(show ((xs.length : Int) != 4) = false by rw [e]; rfl), if_neg (by decide)]
      match xs, e, g with
      | [r, dd, o, s], _, g =>
        obtain ⟨k1, k2, k3, k4, _⟩ := g
        rw [wayB] at yes no
        have i0 : ∀ {Q : Qv} {u : Hc}, Q r u → wpIx (.tup [r, dd, o, s]) (.int 0) u Q := fun q => ix_tup rfl q
        have i1 : ∀ {Q : Qv} {u : Hc}, Q dd u → wpIx (.tup [r, dd, o, s]) (.int 1) u Q := fun q => ix_tup rfl q
        have i2 : ∀ {Q : Qv} {u : Hc}, Q o u → wpIx (.tup [r, dd, o, s]) (.int 2) u Q := fun q => ix_tup rfl q
        have i3 : ∀ {Q : Qv} {u : Hc}, Q s u → wpIx (.tup [r, dd, o, s]) (.int 3) u Q := fun q => ix_tup rfl q
        refine i0 (p15 r h _ _ k1.kn ?_)
        try trivial
        cases r with
        | int i =>
          rw [if_neg (show ¬ (!isWhole (.int i)) = true from Bool.false_ne_true)]
          refine i2 (p15 o h _ _ k3.kn ?_)
          try trivial
          cases o with
          | int j =>
            rw [if_neg (show ¬ (!isWhole (.int j)) = true from Bool.false_ne_true)]
            have yes : (decide (0 ≤ i) && decide (i < m) && (decide (0 ≤ j) && decide (j < m)) && isSign s && isDeed dd) = true → _ := yes
            have no : (decide (0 ≤ i) && decide (i < m) && (decide (0 ≤ j) && decide (j < m)) && isSign s && isDeed dd) = false → _ := no
            refine i0 (i2 (min_int ?_))
            try trivial
            by_cases c1 : 0 ≤ i ∧ 0 ≤ j
            · rw [decide_eq_false (show ¬ ((if j < i then j else i) < 0) by split <;> omega), if_neg (by decide)]
              refine i0 (i2 (max_int ?_))
              try trivial
              by_cases c2 : i < m ∧ j < m
              · rw [decide_eq_false (show ¬ (m ≤ (if j > i then j else i)) by split <;> omega), if_neg (by decide)]
                rw [decide_eq_true c1.1, decide_eq_true c1.2, decide_eq_true c2.1, decide_eq_true c2.2] at yes no
                refine i1 ?_
                try trivial
                refine ⟨k2.kn, ?_⟩
                cases dd with
                | str x =>
                  rw [if_neg (show ¬ (!tyB (.str x) .str) = true from Bool.false_ne_true)]
                  refine i1 ⟨by show 4 ≤ sizeLine; omega, ?_⟩
                  try trivial
                  refine ⟨_, ⟨rfl, by decide +kernel, rfl⟩, _, rfl, ?_⟩
                  have di := deed_in x
                  unfold deeds at di
                  rw [di]
                  cases ed : isDeed (.str x) with
                  | false => rw [if_pos (by decide)]; exact no (by rw [ed, Bool.and_false])
                  | true =>
                    rw [if_neg (by decide)]
                    rw [ed] at yes no
                    refine i3 ?_
                    try trivial
                    refine ⟨k4.kn, ?_⟩
                    cases s with
                    | str z =>
                      rw [if_neg (show ¬ (!tyB (.str z) .str) = true from Bool.false_ne_true)]
                      refine i3 (len_str k4 ?_)
                      try trivial
                      have yes : (true && true && (true && true) && signS z && true) = true → _ := yes
                      have no : (true && true && (true && true) && signS z && true) = false → _ := no
                      by_cases e : z.length = 1
                      · rw [(show ((z.length : Int) != 1) = false by rw [e]; rfl), if_neg (by decide)]
                        obtain ⟨c, rfl⟩ := str_one e
                        refine i3 ?_
                        try trivial
                        refine ⟨_, ⟨c, rfl, rfl⟩, _, rfl, ?_⟩
                        have sg : signS (⟨#[c]⟩ : Str) = decide (c ∈ letters.cps.toList) := by
                          unfold signS
                          rw [decide_eq_true e, Bool.true_and]; rfl
                        rw [sg] at yes no
                        have lt : letters = (("abcdefghijklmnopqrstuvwxyz" : Str)) := rfl
                        rw [← lt]
                        cases em : decide (c ∈ letters.cps.toList) with
                        | false => rw [if_pos (by decide)]; exact no (by rw [em]; rfl)
                        | true => rw [if_neg (by decide)]; exact yes (by rw [em]; rfl)
                      · rw [(show ((z.length : Int) != 1) = true by simpa using fun y : (z.length : Int) = 1 => e (by omega)), if_pos rfl]
                        refine no ?_
                        have : signS z = false := by unfold signS; rw [decide_eq_false e, Bool.false_and]
                        rw [this]; rfl
                    | _ => exact no rfl
                | _ => exact no (by simp [isDeed])
              · rw [decide_eq_true (show m ≤ (if j > i then j else i) by split <;> omega), if_pos rfl]
                refine no ?_
                have : (decide (0 ≤ i) && decide (i < m) && (decide (0 ≤ j) && decide (j < m))) = false := by
                  simp only [Bool.and_eq_false_iff, decide_eq_false_iff_not]
                  omega
                rw [this]; rfl
            · rw [decide_eq_true (show (if j < i then j else i) < 0 by split <;> omega), if_pos rfl]
              refine no ?_
              have : (decide (0 ≤ i) && decide (i < m) && (decide (0 ≤ j) && decide (j < m))) = false := by
                simp only [Bool.and_eq_false_iff, decide_eq_false_iff_not]
                omega
              rw [this]; rfl
          | _ => exact no (by simp [isRoom])
        | _ => exact no rfl
    · rw [(show ((xs.length : Int) != 4) = true by simpa using fun z : (xs.length : Int) = 4 => e (by omega)), if_pos rfl]
      exact no (way_len e)
  | _ => exact no rfl
end Sr

set_option Elab.async false
set_option linter.all false
set_option maxRecDepth 100000
set_option autoImplicit false
set_option maxHeartbeats 1000000
/-! SrP13: the law's own look at a house -/
namespace Sr
open PySem L2
/-- the words that are opened -/
local macro_rules | `(tactic| trivial) => `(tactic| simp only [wpSs, wpS, wpE, wpEs, wpT, wpCs, wpTg, wpTgs, wpIt, wpIsi, wip, begn, List.map_cons, List.map_nil, List.length_cons, List.length_nil, List.replicate, List.nil_append, List.cons_append, List.append_nil, List.getElem?_cons_zero, List.getElem?_cons_succ, List.set_cons_zero, List.set_cons_succ,
  Option.some.injEq, exists_eq_left', exists_eq_left, Nat.sub_self, Nat.reduceSub, Nat.reduceAdd, exists_and_left, ↓reduceIte, Bool.not_true, Bool.not_false, Bool.false_eq_true, isTy_iff, tru_bl, tru_int, tru_tup, and_assoc, bl_inj, add_int, sub_int, mul_int, fdiv_int, mod_int, pow_int, add_tup, add_str, aug_add, aug_sub, eq_int, ne_int, eq_bl, ne_bl, eq_str, ne_str, lt_int, le_int, gt_int, ge_int, is_bl, isnot_bl])
theorem ways_none {m : Int} {ws : List D} : ∀ {x : D}, x ∈ ws → isWay x m = false → ws.all (isWay · m) = false := fun hx w => by
  cases e : ws.all (isWay · m) with
  | false => rfl
  | true => rw [List.all_eq_true.mp e _ hx] at w; cases w
theorem ok_lhouse {C : Nat → Fn} {L : Cls} (p15 : P1 C 15) {d : D} {h : Hc} {Q : Qv} {X : Qx} (g : Gd h d) (q : Q (.bl (isHouse d)) h) : wpF C L ⟨1, 4, m_law_is_house⟩ [d] h Q X := by
  have line := line_ge
  refine ⟨rfl, ?_⟩
  unfold m_law_is_house
  refine seq_ (fun σ' h' => h = h' ∧ σ' = [some d, none, none, none] ∧ ∃ m ws, d = .tup [.int m, .tup ws]) (fun k hk => ?_) fun σ' h' ⟨e1, e2, m, ws, e3⟩ => ?_
  · try trivial
    refine ⟨g.kn, ?_⟩
    cases d with
    | tup xs =>
      show if (!true) = true then _ else _
      rw [if_neg (by decide)]
      refine len_tup (.here ?_)
      try trivial
      by_cases e : xs.length = 2
      · rw [(show ((xs.length : Int) != 2) = false by rw [e]; rfl), if_neg (by decide)]
        match xs, e, g with
        | [a, b], _, g =>
          obtain ⟨g1, g2, _⟩ := g
          refine ix_tup (v := a) rfl (p15 a h _ _ g1.kn ?_)
          try trivial
          cases a with
          | int m =>
            rw [if_neg (show ¬ (!isWhole (.int m)) = true from Bool.false_ne_true)]
            refine ix_tup (v := b) rfl ⟨g2.kn, ?_⟩
            cases b with
            | tup ws =>
              rw [if_neg (show ¬ (!tyB (.tup ws) .tuple) = true from Bool.false_ne_true)]
              exact hk _ _ ⟨rfl, rfl, _, _, rfl⟩
            | _ => exact .here q
          | _ => exact .here q
      · rw [(show ((xs.length : Int) != 2) = true by simpa using fun z : (xs.length : Int) = 2 => e (by omega)), if_pos rfl]
        rw [house_len e] at q
        exact .here q
    | _ => exact .here q
  subst e1 e2 e3
  obtain ⟨_, g2, _⟩ := g
  refine seq_ (fun σ' h' => h = h' ∧ σ' = [some (.tup [.int m, .tup ws]), some (.int m), some (.tup ws), none]) (fun k hk => ?_) fun σ' h' ⟨e1, e2⟩ => ?_
  · try trivial
    exact ⟨[.int m, .tup ws], .inl rfl, rfl, _, _, rfl, _, [], rfl, rfl, hk _ _ ⟨rfl, rfl⟩⟩
  subst e1 e2
  have q : Q (.bl (decide (1 ≤ m) && decide (m ≤ 12) && decide (ws.length ≤ 100) && ws.all (isWay · m) && decide (ws.filterMap kT).Nodup)) h := q
  refine seq_ (fun σ' h' => h = h' ∧ σ' = [some (.tup [.int m, .tup ws]), some (.int m), some (.tup ws), none] ∧ 1 ≤ m ∧ m ≤ 12 ∧ ws.length ≤ 100) (fun k hk => ?_) fun σ' h' ⟨e1, e2, m1, m2, c⟩ => ?_
  · try trivial
    by_cases m1 : m < 1
    · rw [decide_eq_true m1, if_pos rfl]
      rw [decide_eq_false (by omega : ¬ 1 ≤ m)] at q
      exact .here q
    · rw [decide_eq_false m1, if_neg (by decide)]
      by_cases m2 : 12 < m
      · rw [decide_eq_true m2, if_pos rfl]
        rw [decide_eq_true (by omega : 1 ≤ m), decide_eq_false (by omega : ¬ m ≤ 12)] at q
        exact .here q
      · rw [decide_eq_false m2, if_neg (by decide)]
        rw [decide_eq_true (by omega : 1 ≤ m), decide_eq_true (by omega : m ≤ 12), Bool.true_and, Bool.true_and] at q
        refine len_tup (.here ?_)
        try trivial
        by_cases c : ws.length ≤ 100
        · rw [decide_eq_false (by omega), if_neg (by decide)]
          exact hk _ _ ⟨rfl, rfl, by omega, by omega, c⟩
        · rw [decide_eq_false c] at q
          rw [decide_eq_true (by omega), if_pos rfl]
          exact .here q
  subst e1 e2
  rw [decide_eq_true m1, decide_eq_true m2, decide_eq_true c, Bool.true_and, Bool.true_and, Bool.true_and] at q
  refine seq_ (fun σ' h' => h = h' ∧ ws.all (isWay · m) = true ∧ ∃ l, σ' = [some (.tup [.int m, .tup ws]), some (.int m), some (.tup ws), l]) (fun k hk => ?_) fun σ' h' ⟨e1, al, l, e2⟩ => ?_
  · refine .inl ⟨.tup ws, rfl, ?_⟩
    refine for_at (fun i σ' h' => h = h' ∧ (∀ x ∈ ws.take i, isWay x m = true) ∧ ∃ l, σ' = [some (.tup [.int m, .tup ws]), some (.int m), some (.tup ws), l])
      (fun i x σ' h' ex ⟨e1, e2, l, e3⟩ => ⟨True.intro, fun k hk => ?_⟩) (fun σ' h' ⟨e1, e2, l, e3⟩ => ⟨True.intro, hk _ _ ⟨e1, List.all_eq_true.mpr (by rwa [List.take_length] at e2), l, e3⟩⟩) ⟨rfl, fun x hx => by simp at hx, none, rfl⟩
    subst e1 e3
    have mem : x ∈ ws := List.mem_of_getElem? ex
    show wpSs _ _ _ _ _
    refine look_way p15 (Gds.get g2 mem) (fun y => hk _ _ ⟨rfl, fun z hz => ?_, _, rfl⟩) (fun w => ?_)
    · rw [List.take_add_one, ex, List.mem_append] at hz
      rcases hz with hz | hz
      · exact e2 z hz
      · rw [Option.toList_some, List.mem_singleton] at hz
        rw [hz]; exact y
    · rw [ways_none mem w] at q
      exact .here q
  subst e1 e2
  rw [al, Bool.true_and] at q
  obtain ⟨kss, e5, e6⟩ := ways_keys al
  rw [e6] at q
  have lk : ws.length = kss.length := by rw [e5, List.length_map]
  try trivial
  refine ⟨_, ws, kss, rfl, .inl rfl, e5, by omega, fun l nd mem => .here ?_⟩
  refine len_tup (.here ?_)
  try trivial
  rw [lk, set_len nd mem]
  exact .here q
end Sr

set_option Elab.async false
set_option linter.all false
set_option maxRecDepth 100000
set_option autoImplicit false
set_option maxHeartbeats 1000000
/-! SrP14: values built from what stands there -/
namespace Sr
open PySem L2
/-- the words that are opened -/
local macro_rules | `(tactic| trivial) => `(tactic| simp only [wpSs, wpS, wpE, wpEs, wpT, wpCs, wpTg, wpTgs, wpIt, wpIsi, wip, begn, List.map_cons, List.map_nil, List.length_cons, List.length_nil, List.replicate, List.nil_append, List.cons_append, List.append_nil, List.getElem?_cons_zero, List.getElem?_cons_succ, List.set_cons_zero, List.set_cons_succ,
  Option.some.injEq, exists_eq_left', exists_eq_left, Nat.sub_self, Nat.reduceSub, Nat.reduceAdd, exists_and_left, ↓reduceIte, Bool.not_true, Bool.not_false, Bool.false_eq_true, isTy_iff, tru_bl, tru_int, tru_tup, and_assoc, bl_inj, add_int, sub_int, mul_int, fdiv_int, mod_int, pow_int, add_tup, add_str, aug_add, aug_sub, eq_int, ne_int, eq_bl, ne_bl, eq_str, ne_str, lt_int, le_int, gt_int, ge_int, is_bl, isnot_bl])
/-! ### values built from what stands there -/
def conB : D → Bool
  | .non => true
  | .bl _ => true
  | .int _ => true
  | .str x => decide (x.length ≤ 1000)
  | _ => false
mutual
/-- an expression that only builds: vs known, ts tuples, ns small numbers -/
inductive Bld (vs ts ns : List Nat) : E → Prop
  | con (d : D) : conB d = true → Bld vs ts ns (.con d)
  | var (i : Nat) : vs.contains i = true → Bld vs ts ns (.var i)
  | tup {es : Es} : Blds vs ts ns es → es.len ≤ 1000 → Bld vs ts ns (.tup es)
  | lst {es : Es} : Blds vs ts ns es → es.len ≤ 1000 → Bld vs ts ns (.lst es)
  | neg (i : Int) : Bld vs ts ns (.neg (.con (.int i)))
  | lis (i : Nat) : ts.contains i = true → Bld vs ts ns (.bi .list (.cons (.var i) .nil))
  | txt (i : Nat) : ns.contains i = true → Bld vs ts ns (.bi .str (.cons (.var i) .nil))
inductive Blds (vs ts ns : List Nat) : Es → Prop
  | nil : Blds vs ts ns .nil
  | cons {e : E} {es : Es} : Bld vs ts ns e → Blds vs ts ns es → Blds vs ts ns (.cons e es)
end
structure Env (vs ts ns : List Nat) (σ : Sg) (h : Hc) : Prop where
  v : ∀ i, vs.contains i = true → ∃ d, σ[i]? = some (some d) ∧ Gd h d
  t : ∀ i, ts.contains i = true → ∃ xs, σ[i]? = some (some (.tup xs))
  n : ∀ i, ns.contains i = true → ∃ j : Int, σ[i]? = some (some (.int j)) ∧ j.natAbs ≤ 1000
theorem Env.sub {vs ts ns : List Nat} {σ : Sg} {h h' : Hc} (g : Env vs ts ns σ h) (s : Sub h h') : Env vs ts ns σ h' :=
  ⟨fun i e => let ⟨d, e1, e2⟩ := g.v i e; ⟨d, e1, e2.sub s⟩, g.t, g.n⟩
theorem log_small {j : Int} (e : j.natAbs ≤ 1000) : j.natAbs.log2 < 1920 := by
  by_cases z : j.natAbs = 0
  · rw [z]; decide
  · exact (Nat.log2_lt z).mpr (Nat.lt_of_le_of_lt e (Nat.lt_of_lt_of_le (by decide : 1000 < 2 ^ 10) (Nat.pow_le_pow_right (by decide) (by decide))))
theorem gd_txt {h : Hc} {j : Int} (e : j.natAbs ≤ 1000) : Gd h (.str (toString j)) := by
  have line := line_ge
  have key : ∀ i : Nat, i < 2001 → (toString ((i : Int) - 1000) : Str).length ≤ 1000 := by decide +kernel
  have := key (j + 1000).toNat (by omega)
  rw [show ((j + 1000).toNat : Int) - 1000 = j by omega] at this
  show (toString j : Str).length ≤ sizeLine
  omega
mutual
theorem bld_ok {C : Nat → Fn} {L : Cls} {vs ts ns : List Nat} {σ : Sg} {X : Qx} : ∀ {e : E} {h : Hc} {Q : Qv}, Bld vs ts ns e → Env vs ts ns σ h → (∀ d h', Sub h h' → Gd h' d → Q d h') → wpE ⟨C, L, none⟩ e σ h Q X
  | _, h, Q, .con d c, g, q => q d h (Sub.refl h) (by
      have line := line_ge
      cases d <;> first | exact True.intro | cases c | skip
      have := of_decide_eq_true c
      show _ ≤ sizeLine
      omega)
  | _, h, Q, .var i c, g, q => let ⟨d, e1, e2⟩ := g.v i c; ⟨d, e1, q d h (Sub.refl h) e2⟩
  | _, h, Q, .tup b l, g, q => blds_ok b g fun ds h' s gs e => ⟨by have line := line_ge; omega, q _ h' s gs⟩
  | _, h, Q, .lst b l, g, q => blds_ok b g fun ds h' s gs e => ⟨by have line := line_ge; omega, fun p np => q _ _ (s.trans (Sub.new np)) ⟨ds, .inl hset_same⟩⟩
  | _, h, Q, .neg i, g, q => ⟨i, rfl, q _ h (Sub.refl h) True.intro⟩
  | _, h, Q, .lis i c, g, q => let ⟨xs, e1⟩ := g.t i c; ⟨_, e1, _, xs, rfl, .inl rfl, fun p np => .here (q _ _ (Sub.new np) ⟨xs, .inl hset_same⟩)⟩
  | _, h, Q, .txt i c, g, q => let ⟨j, e1, e2⟩ := g.n i c; ⟨_, e1, j, rfl, log_small e2, q _ h (Sub.refl h) (gd_txt e2)⟩
theorem blds_ok {C : Nat → Fn} {L : Cls} {vs ts ns : List Nat} {σ : Sg} {X : Qx} : ∀ {es : Es} {h : Hc} {Q : List D → Hc → Prop}, Blds vs ts ns es → Env vs ts ns σ h → (∀ ds h', Sub h h' → Gds h' ds → ds.length = es.len → Q ds h') → wpEs ⟨C, L, none⟩ es σ h Q X
  | _, h, Q, .nil, g, q => q [] h (Sub.refl h) True.intro rfl
  | _, h, Q, .cons b bs, g, q => bld_ok b g fun d h1 s1 g1 => blds_ok bs (g.sub s1) fun ds h2 s2 g2 e => q _ h2 (s1.trans s2) ⟨g1.sub s2, g2⟩ (congrArg (· + 1) e)
end
/-- a list of good values at r, new since h0 -/
structure Gl (h0 h : Hc) (r : Addr) (n : Nat) : Prop where
  s : Sub h0 h
  f : h0 r = none
  x : ∃ xs, h r = some (.lst xs) ∧ Gds h xs ∧ xs.length ≤ n
theorem Gl.up {h0 h h' : Hc} {r : Addr} {n : Nat} (g : Gl h0 h r n) (s : Sub h h') : Gl h0 h' r n :=
  let ⟨xs, e1, e2, e3⟩ := g.x
  ⟨g.s.trans s, g.f, xs, s _ _ e1, e2.sub s, e3⟩
/-- name = [ .. ] -/
theorem first_ {C : Nat → Fn} {L : Cls} {vs ts ns : List Nat} {σ : Sg} {h0 h : Hc} {K : Kt} {i : Nat} {es : Es} (s : Sub h0 h) (g : Env vs ts ns σ h) (b : Blds vs ts ns es) (l : es.len ≤ 1000)
    (q : ∀ p h', Sub h h' → Gl h0 h' p es.len → K.nx (σ.set i (some (.ref p))) h') : wpS ⟨C, L, none⟩ (.asg (.nm i) (.lst es)) K σ h :=
  blds_ok b g fun ds h1 s1 g1 e => ⟨by have line := line_ge; omega, fun p np => q p _ (s1.trans (Sub.new np)) ⟨(s.trans s1).put (un_of (s.trans s1) np), un_of (s.trans s1) np, ds, hset_same, g1.sub (Sub.new np), by omega⟩⟩
/-- name = name + [ .. ] -/
theorem grow_ {C : Nat → Fn} {L : Cls} {vs ts ns : List Nat} {σ : Sg} {h0 h : Hc} {K : Kt} {i : Nat} {es : Es} {r : Addr} {n : Nat} (er : σ[i]? = some (some (.ref r))) (gl : Gl h0 h r n) (g : Env vs ts ns σ h) (b : Blds vs ts ns es) (l : es.len ≤ 1000) (nn : n ≤ 10000)
    (q : ∀ p h', Sub h h' → Gl h0 h' p (n + es.len) → K.nx (σ.set i (some (.ref p))) h') : wpS ⟨C, L, none⟩ (.asg (.nm i) (.bin .add (.var i) (.lst es))) K σ h := by
  have line := line_ge
  refine ⟨.ref r, er, ?_⟩
  refine blds_ok b g fun ds h1 s1 g1 e => ⟨by omega, fun p np => ?_⟩
  obtain ⟨xs, e1, e2, e3⟩ := gl.x
  refine ⟨xs, ds, hs_keep (s1 _ _ e1) np, hset_same, by omega, fun p2 np2 => ?_⟩
  have s2 := (s1.trans (Sub.new np)).trans (Sub.new np2 (o := .lst (xs ++ ds)))
  have s0 := gl.s.trans (s1.trans (Sub.new np (o := .lst ds)))
  exact q p2 _ s2 ⟨gl.s.trans s2, un_of s0 np2, _, hset_same, Gds.app (e2.sub s2) ((g1.sub (Sub.new np)).sub (Sub.new np2)), by rw [List.length_append]; omega⟩
/-- a value that builds is taken in -/
theorem Gd.upd {h : Hc} {r : Addr} {ys : List D} {a : Addr} (g : Gd h (.ref a)) : Gd (hset h r (.lst ys)) (.ref a) := by
  by_cases e : a = r
  · subst e; exact ⟨ys, .inl hset_same⟩
  · obtain ⟨xs, g⟩ := g
    exact ⟨xs, by unfold RdL; rw [hset_ne e]; exact g⟩
mutual
theorem Gd.put {h : Hc} {r : Addr} {ys : List D} : ∀ {d : D}, Gd h d → Gd (hset h r (.lst ys)) d
  | .ref a, g => Gd.upd g
  | .str x, g => g
  | .tup xs, g => Gds.put (ds := xs) g
  | .non, _ => True.intro
  | .bl _, _ => True.intro
  | .int _, _ => True.intro
theorem Gds.put {h : Hc} {r : Addr} {ys : List D} : ∀ {ds : List D}, Gds h ds → Gds (hset h r (.lst ys)) ds
  | [], _ => True.intro
  | x :: xs, g => ⟨Gd.put g.1, Gds.put g.2⟩
end
end Sr

set_option Elab.async false
set_option linter.all false
set_option maxRecDepth 100000
set_option autoImplicit false
set_option maxHeartbeats 1000000
/-! SrP15: the bad things, first half -/
namespace Sr
open PySem L2
/-- the words that are opened -/
local macro_rules | `(tactic| trivial) => `(tactic| simp only [wpSs, wpS, wpE, wpEs, wpT, wpCs, wpTg, wpTgs, wpIt, wpIsi, wip, begn, List.map_cons, List.map_nil, List.length_cons, List.length_nil, List.replicate, List.nil_append, List.cons_append, List.append_nil, List.getElem?_cons_zero, List.getElem?_cons_succ, List.set_cons_zero, List.set_cons_succ,
  Option.some.injEq, exists_eq_left', exists_eq_left, Nat.sub_self, Nat.reduceSub, Nat.reduceAdd, exists_and_left, ↓reduceIte, Bool.not_true, Bool.not_false, Bool.false_eq_true, isTy_iff, tru_bl, tru_int, tru_tup, and_assoc, bl_inj, add_int, sub_int, mul_int, fdiv_int, mod_int, pow_int, add_tup, add_str, aug_add, aug_sub, eq_int, ne_int, eq_bl, ne_bl, eq_str, ne_str, lt_int, le_int, gt_int, ge_int, is_bl, isnot_bl])
theorem way_is2 {d : D} {m : Int} (h : isWay d m = true) : ∃ (i j : Int) (x y : Str), d = .tup [.int i, .str x, .int j, .str y] ∧ 0 ≤ i ∧ i < m ∧ 0 ≤ j ∧ j < m ∧ x.length ≤ 4 ∧ y.length = 1 := by
  obtain ⟨r, o, x, s, e, h1, h2, h3, h4, w, c, rfl, _⟩ := way_is h
  have l1 : x.length ≤ 4 := by rcases w with rfl | rfl | rfl | rfl <;> decide +kernel
  exact ⟨r, o, x, _, e, h1, h2, h3, h4, l1, rfl⟩
/-- the bad things: a new list of values of any kind -/
def P17 (C : Nat → Fn) (i : Nat) : Prop := ∀ (d : D) (k : Int) (h : Hc) (Q : Qv) (X : Qx), isHouse d = true → (∀ r h', Gl h h' r 1000 → Q (.ref r) h') → C i [d, .int k] h Q X
theorem cut_gd {h : Hc} {ws : List D} {lo hi : Option Int} (g : Gds h ws) : Gds h (cutD ws lo hi) := Gds.of fun x hx => g.get (List.mem_of_mem_drop (List.mem_of_mem_take hx))
theorem cut_len {ws : List D} {lo hi : Option Int} : (cutD ws lo hi).length ≤ ws.length := by
  unfold cutD
  rw [List.length_take, List.length_drop]
  omega
structure Bd (h0 h : Hc) (d : D) (m : Int) (ws : List D) (σ : Sg) (n : Nat) (k : Int) (r : Addr) (i : Int) (x : D) (o : D) (y : D) (u v : List D) (l z : Option D) : Prop where
  e : σ = [some d, some (.int k), some (.int m), some (.tup ws), some (.ref r), some (.int i), some x, some o, some y, some (.tup u), some (.tup v), l, z]
  g : Gl h0 h r n
  k1 : 0 < ws.length → 0 ≤ k ∧ k < ws.length
  i1 : i.natAbs ≤ 1000
  gx : Gd h x
  go : Gd h o
  gy : Gd h y
  gu : Gds h u
  gv : Gds h v
  lu : u.length ≤ 100
  lv : v.length ≤ 100
theorem Bd.env {h0 h : Hc} {d : D} {m : Int} {ws : List D} {σ : Sg} {n : Nat} {k : Int} {r : Addr} {i : Int} {x o y : D} {u v : List D} {l z : Option D} (b : Bd h0 h d m ws σ n k r i x o y u v l z) : Env [2, 5, 6, 7, 8] [] [5] σ h := by
  obtain ⟨rfl, _, _, i1, gx, go, gy, _⟩ := b
  refine ⟨fun j e => ?_, fun j e => (nomatch (show false = true from e)), fun j e => ?_⟩
  · have : j ∈ [2, 5, 6, 7, 8] := by simpa using e
    simp only [List.mem_cons, List.not_mem_nil, or_false] at this
    rcases this with rfl | rfl | rfl | rfl | rfl
    · exact ⟨_, rfl, True.intro⟩
    · exact ⟨_, rfl, True.intro⟩
    · exact ⟨_, rfl, gx⟩
    · exact ⟨_, rfl, go⟩
    · exact ⟨_, rfl, gy⟩
  · have : j ∈ [5] := by simpa using e
    simp only [List.mem_cons, List.not_mem_nil, or_false] at this
    subst this
    exact ⟨_, rfl, i1⟩
theorem Bd.sub {h0 h h' : Hc} {d : D} {m : Int} {ws : List D} {σ : Sg} {n : Nat} {k : Int} {r : Addr} {i : Int} {x o y : D} {u v : List D} {l z l' : Option D} (b : Bd h0 h d m ws σ n k r i x o y u v l z) (s : Sub h h') : Bd h0 h' d m ws (σ.set 11 l') n k r i x o y u v l' z := by
  obtain ⟨rfl, g, k1, i1, gx, go, gy, gu, gv, lu, lv⟩ := b
  exact ⟨rfl, g.up s, k1, i1, gx.sub s, go.sub s, gy.sub s, gu.sub s, gv.sub s, lu, lv⟩
theorem bad_head {C : Nat → Fn} {L : Cls} {m : Int} {ws : List D} {k : Int} {h : Hc} {K : Kt} {ss : Ss} (m2 : m ≤ 12) (m1 : 1 ≤ m) (few : ws.length ≤ 100) (al : ws.all (isWay · m) = true)
    (q : ∀ σ h' k r i x o y u v, Bd h h' (.tup [.int m, .tup ws]) m ws σ 20 k r i x o y u v none none → wpSs ⟨C, L, none⟩ ss K σ h') :
    wpSs ⟨C, L, none⟩ (.cons (.asg (.tup (.cons (.nm 2) (.cons (.nm 3) .nil))) (.var 0)) 
  (.cons (.asg (.nm 4) (.lst (.cons (.con .non) (.cons (.con (.bl true)) (.cons (.con (.int 0)) (.cons (.con (.str "1:")) (.cons (.tup .nil) (.cons (.lst .nil) (.cons (.tup (.cons (.var 2) .nil)) (.cons (.lst (.cons (.var 2) (.cons (.var 3) .nil))) (.cons (.tup (.cons (.var 2) (.cons (.bi .list (.cons (.var 3) .nil)) .nil))) (.cons (.tup (.cons (.var 2) (.cons (.var 3) (.cons (.tup .nil) .nil)))) (.cons (.tup (.cons (.var 2) (.cons (.con .non) .nil))) .nil))))))))))))) 
  (.cons (.asg (.nm 4) (.bin .add (.var 4) (.lst (.cons (.tup (.cons (.con (.int 0)) (.cons (.tup .nil) .nil))) (.cons (.tup (.cons (.con (.int 13)) (.cons (.tup .nil) .nil))) (.cons (.tup (.cons (.neg (.con (.int 1))) (.cons (.tup .nil) .nil))) (.cons (.tup (.cons (.con (.bl true)) (.cons (.tup .nil) .nil))) (.cons (.tup (.cons (.con (.str "1")) (.cons (.tup .nil) .nil))) (.cons (.tup (.cons (.con .non) (.cons (.var 3) .nil))) (.cons (.tup (.cons (.con (.int 1)) (.cons (.tup (.cons (.tup .nil) .nil)) .nil))) (.cons (.tup (.cons (.con (.int 1)) (.cons (.tup (.cons (.con .non) .nil)) .nil))) (.cons (.var 3) .nil)))))))))))) 
  (.cons (.asg (.tup (.cons (.nm 5) (.cons (.nm 6) (.cons (.nm 7) (.cons (.nm 8) .nil))))) (.tup (.cons (.con (.int 0)) (.cons (.con (.str "up")) (.cons (.con (.int 0)) (.cons (.con (.str "a")) .nil)))))) 
  (.cons (.asg (.nm 9) (.tup .nil)) 
  (.cons (.asg (.nm 10) (.tup .nil)) 
  (.cons (.ifs (.cmp .gt (.bi .len (.cons (.var 3) .nil)) (.con (.int 0))) 
    (.cons (.asg (.nm 1) (.bin .mod (.var 1) (.bi .len (.cons (.var 3) .nil)))) 
    (.cons (.asg (.tup (.cons (.nm 5) (.cons (.nm 6) (.cons (.nm 7) (.cons (.nm 8) .nil))))) (.ix (.var 3) (.var 1))) 
    (.cons (.asg (.nm 9) (.sl (.var 3) .nil (.cons (.var 1) .nil))) 
    (.cons (.asg (.nm 10) (.sl (.var 3) (.cons (.bin .add (.var 1) (.con (.int 1))) .nil) .nil)) .nil)))) .nil) ss))))))) K [some (.tup [.int m, .tup ws]), some (.int k), none, none, none, none, none, none, none, none, none, none, none] h := by
  have line := line_ge
  refine seq_ (fun σ' h' => h = h' ∧ σ' = [some (.tup [.int m, .tup ws]), some (.int k), some (.int m), some (.tup ws), none, none, none, none, none, none, none, none, none]) (fun k hk => ?_) fun σ' h' ⟨e1, e2⟩ => ?_
  · try trivial
    exact ⟨[.int m, .tup ws], .inl rfl, rfl, _, _, rfl, _, [], rfl, rfl, hk _ _ ⟨rfl, rfl⟩⟩
  subst e1 e2
  have en : ∀ {h' : Hc} {l4 : Option D}, Env [2, 3] [3] [] [some (.tup [.int m, .tup ws]), some (.int k), some (.int m), some (.tup ws), l4, none, none, none, none, none, none, none, none] h' := fun {h' l4} => by
    refine ⟨fun j e => ?_, fun j e => ?_, fun j e => (nomatch (show false = true from e))⟩
    · have : j ∈ [2, 3] := by simpa using e
      simp only [List.mem_cons, List.not_mem_nil, or_false] at this
      rcases this with rfl | rfl
      · exact ⟨_, rfl, True.intro⟩
      · exact ⟨_, rfl, ways_gd (h := h') al⟩
    · have : j ∈ [3] := by simpa using e
      simp only [List.mem_cons, List.not_mem_nil, or_false] at this
      subst this
      exact ⟨_, rfl⟩
  refine seq_ (fun σ' h' => ∃ r, Gl h h' r 11 ∧ σ' = [some (.tup [.int m, .tup ws]), some (.int k), some (.int m), some (.tup ws), some (.ref r), none, none, none, none, none, none, none, none]) (fun k hk => ?_) fun σ' h1 ⟨r, gl, e2⟩ => ?_
  · exact first_ (Sub.refl h) en (by repeat' (first | rfl | decide | constructor)) (by decide) fun p h' s g => hk _ _ ⟨p, g, rfl⟩
  subst e2
  refine seq_ (fun σ' h' => ∃ r, Gl h h' r 20 ∧ σ' = [some (.tup [.int m, .tup ws]), some (.int k), some (.int m), some (.tup ws), some (.ref r), none, none, none, none, none, none, none, none]) (fun k hk => ?_) fun σ' h1 ⟨r, gl, e2⟩ => ?_
  · exact grow_ rfl gl en (by repeat' (first | rfl | decide | constructor)) (by decide) (by decide) fun p h' s g => hk _ _ ⟨p, g, rfl⟩
  subst e2
  refine seq_ (fun σ' h' => h1 = h' ∧ σ' = [some (.tup [.int m, .tup ws]), some (.int k), some (.int m), some (.tup ws), some (.ref r), some (.int 0), some (.str "up"), some (.int 0), some (.str "a"), none, none, none, none]) (fun k hk => ?_) fun σ' h' ⟨e1, e2⟩ => ?_
  · try trivial
    exact ⟨by omega, _, .inl rfl, rfl, _, _, rfl, _, _, rfl, _, _, rfl, _, [], rfl, rfl, hk _ _ ⟨rfl, rfl⟩⟩
  subst e1 e2
  refine seq_ (fun σ' h' => h1 = h' ∧ σ' = [some (.tup [.int m, .tup ws]), some (.int k), some (.int m), some (.tup ws), some (.ref r), some (.int 0), some (.str "up"), some (.int 0), some (.str "a"), some (.tup []), none, none, none]) (fun k hk => ?_) fun σ' h' ⟨e1, e2⟩ => ?_
  · try trivial
    exact ⟨by omega, hk _ _ ⟨rfl, rfl⟩⟩
  subst e1 e2
  refine seq_ (fun σ' h' => h1 = h' ∧ σ' = [some (.tup [.int m, .tup ws]), some (.int k), some (.int m), some (.tup ws), some (.ref r), some (.int 0), some (.str "up"), some (.int 0), some (.str "a"), some (.tup []), some (.tup []), none, none]) (fun k hk => ?_) fun σ' h' ⟨e1, e2⟩ => ?_
  · try trivial
    exact ⟨by omega, hk _ _ ⟨rfl, rfl⟩⟩
  subst e1 e2
  refine seq_ (fun σ' h' => ∃ k r i x o y u v, Bd h h' (.tup [.int m, .tup ws]) m ws σ' 20 k r i x o y u v none none) (fun kk hk => ?_) fun σ' h' ⟨k, r, i, x, o, y, u, v, b⟩ => q _ _ _ _ _ _ _ _ _ _ b
  try trivial
  refine len_tup (.here ?_)
  try trivial
  have gu : Gd h1 (.str "up") := (show (("up" : Str)).length ≤ sizeLine by have : (("up" : Str)).length = 2 := rfl; omega)
  have ga : Gd h1 (.str "a") := (show (("a" : Str)).length ≤ sizeLine by have : (("a" : Str)).length = 1 := rfl; omega)
  by_cases e : 0 < ws.length
  · rw [decide_eq_true (by omega), if_pos rfl]
    refine len_tup (.here ?_)
    try trivial
    have z1 := Int.emod_nonneg k (by omega : (ws.length : Int) ≠ 0)
    have z2 := Int.emod_lt_of_pos k (by omega : 0 < (ws.length : Int))
    generalize k % (ws.length : Int) = k2 at *
    have lt : k2.toNat < ws.length := by omega
    have gx := List.getElem?_eq_getElem lt
    generalize ws[k2.toNat] = w at gx
    have mem : w ∈ ws := List.mem_of_getElem? gx
    obtain ⟨i, j, x, y, rfl, i0, i1, j0, j1, lx, ly⟩ := way_is2 (List.all_eq_true.mp al w mem)
    refine ⟨by omega, ix_tup (at_of z1 gx) ?_⟩
    try trivial
    refine ⟨_, .inl rfl, rfl, _, _, rfl, _, _, rfl, _, _, rfl, _, [], rfl, rfl, ?_⟩
    try trivial
    refine ⟨⟨none, rfl⟩, none, rfl, some k2, rfl, ?_⟩
    try trivial
    refine ⟨⟨some (k2 + 1), rfl⟩, some (k2 + 1), rfl, none, rfl, ?_⟩
    refine hk _ _ ⟨k2, r, i, .str x, .int j, .str y, cutD ws none (some k2), cutD ws (some (k2 + 1)) none, rfl, gl, fun _ => ⟨z1, z2⟩, by omega, (show x.length ≤ sizeLine by omega), True.intro, (show y.length ≤ sizeLine by omega), cut_gd (ways_gd al), cut_gd (ways_gd al), Nat.le_trans cut_len few, Nat.le_trans cut_len few⟩
  · rw [decide_eq_false (by omega), if_neg (by decide)]
    exact hk _ _ ⟨k, r, 0, .str "up", .int 0, .str "a", [], [], rfl, gl, fun z => absurd z e, by decide, gu, True.intro, ga, True.intro, True.intro, by decide, by decide⟩
end Sr

set_option Elab.async false
set_option linter.all false
set_option maxRecDepth 100000
set_option autoImplicit false
set_option maxHeartbeats 1000000
/-! SrP16: the bad things, second half -/
namespace Sr
open PySem L2
/-- the words that are opened -/
local macro_rules | `(tactic| trivial) => `(tactic| simp only [wpSs, wpS, wpE, wpEs, wpT, wpCs, wpTg, wpTgs, wpIt, wpIsi, wip, begn, List.map_cons, List.map_nil, List.length_cons, List.length_nil, List.replicate, List.nil_append, List.cons_append, List.append_nil, List.getElem?_cons_zero, List.getElem?_cons_succ, List.set_cons_zero, List.set_cons_succ,
  Option.some.injEq, exists_eq_left', exists_eq_left, Nat.sub_self, Nat.reduceSub, Nat.reduceAdd, exists_and_left, ↓reduceIte, Bool.not_true, Bool.not_false, Bool.false_eq_true, isTy_iff, tru_bl, tru_int, tru_tup, and_assoc, bl_inj, add_int, sub_int, mul_int, fdiv_int, mod_int, pow_int, add_tup, add_str, aug_add, aug_sub, eq_int, ne_int, eq_bl, ne_bl, eq_str, ne_str, lt_int, le_int, gt_int, ge_int, is_bl, isnot_bl])
theorem gds_one {h : Hc} {x : D} (g : Gd h x) : Gds h [x] := ⟨g, True.intro⟩
theorem gds_pair {h : Hc} {m : Int} {xs : List D} (g : Gds h xs) : Gds h [.tup [.int m, .tup xs]] := ⟨⟨True.intro, g, True.intro⟩, True.intro⟩
theorem bad_tail {C : Nat → Fn} {L : Cls} {h0 h : Hc} {d : D} {m : Int} {ws : List D} {σ : Sg} {k : Int} {r p : Addr} {i : Int} {x o y : D} {u v : List D} {K : Kt} (few : ws.length ≤ 100) (al : ws.all (isWay · m) = true) (b : Bd h0 h d m ws σ 20 k r i x o y u v (some (.ref p)) none) (gl : Gl h0 h p 28)
    (q : ∀ r h', Gl h0 h' r 1000 → K.rt (.ref r) h') : wpSs ⟨C, L, none⟩ (.cons (.asg (.nm 4) (.bin .add (.var 4) (.lc (.tup (.cons (.var 2) (.cons (.bin .add (.bin .add (.var 9) (.tup (.cons (.var 12) .nil))) (.var 10)) .nil))) (.nm 12) (.of (.var 11)) .nil [12]))) 
  (.cons (.ifs (.cmp .gt (.bi .len (.cons (.var 3) .nil)) (.con (.int 0))) 
    (.cons (.ex (.mt .append (.var 4) (.cons (.tup (.cons (.var 2) (.cons (.bin .add (.var 3) (.tup (.cons (.ix (.var 3) (.var 1)) .nil))) .nil))) .nil))) .nil) .nil) 
  (.cons (.ret (.var 4)) .nil))) K σ h := by
  have line := line_ge
  obtain ⟨rfl, g, k1, i1, gx, go, gy, gu, gv, lu, lv⟩ := b
  refine seq_ (fun σ' h' => ∃ r l, Gl h0 h' r 48 ∧ σ' = [some d, some (.int k), some (.int m), some (.tup ws), some (.ref r), some (.int i), some x, some o, some y, some (.tup u), some (.tup v), some (.ref p), l]) (fun kk hk => ?_) fun σ' h' ⟨r, l, gr, e⟩ => ?_
  · try trivial
    obtain ⟨ys, ey, gys, ly⟩ := gl.x
    refine .inl ⟨ys, .inl ey, fun a na => ?_⟩
    refine lc_ind (fun rest acc h' => Sub h h' ∧ Gds h' acc ∧ (∀ x ∈ rest, Gd h x) ∧ acc.length + rest.length ≤ 28) (fun z rest acc h' ⟨s, ga, gr, le⟩ => ⟨(RdL.sub s (.inl ey)), fun kk2 hk2 ea => ?_⟩) (fun acc h' ⟨s, ga, _, le⟩ ea => ⟨RdL.sub s (.inl ey), ?_⟩) ys [] _ ⟨(Sub.refl h).put na, True.intro, fun x hx => gys.get hx, by simpa using ly⟩ hset_same
    · try trivial
      rw [List.length_cons] at le
      have gz : Gd h z := gr z (List.mem_cons.mpr (.inl rfl))
      refine ⟨True.intro, by omega, ?_⟩
      try trivial
      refine ⟨by omega, ?_⟩
      try trivial
      refine ⟨by rw [List.length_append, List.length_singleton]; omega, by omega, acc, ea, by omega, hk2 _ _ ⟨s.put na, Gds.app (Gds.put ga) (gds_pair (Gds.app (Gds.app (Gds.put (gu.sub s)) (gds_one (Gd.put (gz.sub s)))) (Gds.put (gv.sub s)))), fun x hx => gr x (List.mem_cons.mpr (.inr hx)), by rw [List.length_append, List.length_singleton]; omega⟩ hset_same⟩
    · obtain ⟨xs, e1, e2, e3⟩ := g.x
      refine ⟨xs, acc, s _ _ e1, ea, by simp at le; omega, fun p2 np2 => ?_⟩
      have s0 := g.s.trans s
      exact hk _ _ ⟨p2, none, ⟨s0.put (un_of s0 np2), un_of s0 np2, _, hset_same, Gds.app ((e2.sub s).sub (Sub.new np2)) (ga.sub (Sub.new np2)), by rw [List.length_append]; simp at le; omega⟩, rfl⟩
  subst e
  obtain ⟨xs, e1, e2, e3⟩ := gr.x
  refine seq_ (fun σ' h'' => Gl h0 h'' r 49 ∧ σ' = [some d, some (.int k), some (.int m), some (.tup ws), some (.ref r), some (.int i), some x, some o, some y, some (.tup u), some (.tup v), some (.ref p), l]) (fun kk hk => ?_) fun σ' h'' ⟨gr, e⟩ => ?_
  · try trivial
    refine len_tup (.here ?_)
    try trivial
    by_cases e : 0 < ws.length
    · rw [decide_eq_true (by omega), if_pos rfl]
      obtain ⟨z1, z2⟩ := k1 e
      have lt : k.toNat < ws.length := by omega
      have gx := List.getElem?_eq_getElem lt
      generalize ws[k.toNat] = w at gx
      have mem : w ∈ ws := List.mem_of_getElem? gx
      refine ⟨⟨r, rfl, xs, .inl e1⟩, ix_tup (at_of z1 gx) ?_⟩
      try trivial
      refine ⟨by omega, ?_⟩
      try trivial
      refine ⟨by omega, by omega, r, xs, _, rfl, rfl, e1, by omega, hk _ _ ⟨⟨gr.s.put gr.f, gr.f, _, hset_same, Gds.app (Gds.put e2) (gds_pair (Gds.app (ways_gd al) (gds_one (way_gd (List.all_eq_true.mp al w mem))))), by rw [List.length_append, List.length_singleton]; omega⟩, rfl⟩⟩
    · rw [decide_eq_false (by omega), if_neg (by decide)]
      exact hk _ _ ⟨⟨gr.s, gr.f, xs, e1, e2, by omega⟩, rfl⟩
  subst e
  try trivial
  obtain ⟨xs, e1, e2, e3⟩ := gr.x
  exact q _ _ ⟨gr.s, gr.f, xs, e1, e2, by omega⟩
theorem ok_bad {C : Nat → Fn} {L : Cls} {d : D} {k : Int} {h : Hc} {Q : Qv} {X : Qx} (hd : isHouse d = true) (q : ∀ r h', Gl h h' r 1000 → Q (.ref r) h') : wpF C L ⟨2, 13, m_law_bad_things⟩ [d, .int k] h Q X := by
  have line := line_ge
  obtain ⟨m, ws, rfl, m1, m2, few, al, _⟩ := house_is hd
  refine ⟨rfl, ?_⟩
  unfold m_law_bad_things
  refine bad_head m2 m1 few al fun σ h1 k r i x o y u v b => ?_
  refine seq_ (fun σ' h' => ∃ p, Bd h h' (.tup [.int m, .tup ws]) m ws σ' 20 k r i x o y u v (some (.ref p)) none ∧ Gl h h' p 4) (fun kk hk => first_ b.g.s b.env (by repeat' (first | rfl | decide | constructor)) (by decide) fun p h' s g => hk _ _ ⟨p, b.sub s, g⟩) fun σ h1 ⟨p, b, gl⟩ => ?_
  refine seq_ (fun σ' h' => ∃ p, Bd h h' (.tup [.int m, .tup ws]) m ws σ' 20 k r i x o y u v (some (.ref p)) none ∧ Gl h h' p 7) (fun kk hk => grow_ (by rw [b.e]; rfl) gl b.env (by repeat' (first | rfl | decide | constructor)) (by decide) (by decide) fun p h' s g => hk _ _ ⟨p, b.sub s, g⟩) fun σ h1 ⟨p, b, gl⟩ => ?_
  refine seq_ (fun σ' h' => ∃ p, Bd h h' (.tup [.int m, .tup ws]) m ws σ' 20 k r i x o y u v (some (.ref p)) none ∧ Gl h h' p 10) (fun kk hk => grow_ (by rw [b.e]; rfl) gl b.env (by repeat' (first | rfl | decide | constructor)) (by decide) (by decide) fun p h' s g => hk _ _ ⟨p, b.sub s, g⟩) fun σ h1 ⟨p, b, gl⟩ => ?_
  refine seq_ (fun σ' h' => ∃ p, Bd h h' (.tup [.int m, .tup ws]) m ws σ' 20 k r i x o y u v (some (.ref p)) none ∧ Gl h h' p 13) (fun kk hk => grow_ (by rw [b.e]; rfl) gl b.env (by repeat' (first | rfl | decide | constructor)) (by decide) (by decide) fun p h' s g => hk _ _ ⟨p, b.sub s, g⟩) fun σ h1 ⟨p, b, gl⟩ => ?_
  refine seq_ (fun σ' h' => ∃ p, Bd h h' (.tup [.int m, .tup ws]) m ws σ' 20 k r i x o y u v (some (.ref p)) none ∧ Gl h h' p 16) (fun kk hk => grow_ (by rw [b.e]; rfl) gl b.env (by repeat' (first | rfl | decide | constructor)) (by decide) (by decide) fun p h' s g => hk _ _ ⟨p, b.sub s, g⟩) fun σ h1 ⟨p, b, gl⟩ => ?_
  refine seq_ (fun σ' h' => ∃ p, Bd h h' (.tup [.int m, .tup ws]) m ws σ' 20 k r i x o y u v (some (.ref p)) none ∧ Gl h h' p 21) (fun kk hk => grow_ (by rw [b.e]; rfl) gl b.env (by repeat' (first | rfl | decide | constructor)) (by decide) (by decide) fun p h' s g => hk _ _ ⟨p, b.sub s, g⟩) fun σ h1 ⟨p, b, gl⟩ => ?_
  refine seq_ (fun σ' h' => ∃ p, Bd h h' (.tup [.int m, .tup ws]) m ws σ' 20 k r i x o y u v (some (.ref p)) none ∧ Gl h h' p 24) (fun kk hk => grow_ (by rw [b.e]; rfl) gl b.env (by repeat' (first | rfl | decide | constructor)) (by decide) (by decide) fun p h' s g => hk _ _ ⟨p, b.sub s, g⟩) fun σ h1 ⟨p, b, gl⟩ => ?_
  refine seq_ (fun σ' h' => ∃ p, Bd h h' (.tup [.int m, .tup ws]) m ws σ' 20 k r i x o y u v (some (.ref p)) none ∧ Gl h h' p 25) (fun kk hk => grow_ (by rw [b.e]; rfl) gl b.env (by repeat' (first | rfl | decide | constructor)) (by decide) (by decide) fun p h' s g => hk _ _ ⟨p, b.sub s, g⟩) fun σ h1 ⟨p, b, gl⟩ => ?_
  refine seq_ (fun σ' h' => ∃ p, Bd h h' (.tup [.int m, .tup ws]) m ws σ' 20 k r i x o y u v (some (.ref p)) none ∧ Gl h h' p 28) (fun kk hk => grow_ (by rw [b.e]; rfl) gl b.env (by repeat' (first | rfl | decide | constructor)) (by decide) (by decide) fun p h' s g => hk _ _ ⟨p, b.sub s, g⟩) fun σ h1 ⟨p, b, gl⟩ => ?_
  exact bad_tail few al b gl fun r h' g => .here (q r h' g)
end Sr

set_option Elab.async false
set_option linter.all false
set_option maxRecDepth 100000
set_option autoImplicit false
set_option maxHeartbeats 1000000
/-! SrP17: many ways -/
namespace Sr
open PySem L2
/-- the words that are opened -/
local macro_rules | `(tactic| trivial) => `(tactic| simp only [wpSs, wpS, wpE, wpEs, wpT, wpCs, wpTg, wpTgs, wpIt, wpIsi, wip, begn, List.map_cons, List.map_nil, List.length_cons, List.length_nil, List.replicate, List.nil_append, List.cons_append, List.append_nil, List.getElem?_cons_zero, List.getElem?_cons_succ, List.set_cons_zero, List.set_cons_succ,
  Option.some.injEq, exists_eq_left', exists_eq_left, Nat.sub_self, Nat.reduceSub, Nat.reduceAdd, exists_and_left, ↓reduceIte, Bool.not_true, Bool.not_false, Bool.false_eq_true, isTy_iff, tru_bl, tru_int, tru_tup, and_assoc, bl_inj, add_int, sub_int, mul_int, fdiv_int, mod_int, pow_int, add_tup, add_str, aug_add, aug_sub, eq_int, ne_int, eq_bl, ne_bl, eq_str, ne_str, lt_int, le_int, gt_int, ge_int, is_bl, isnot_bl])
/-! ### many ways -/
def dWords : List Str := ["up", "down", "stay", "zero"]
def ten : Str := "abcdefghij"
def mwKey (k : Int) (i : Nat) : List Key := [.inl ((i : Int) / 4 % 12), .inr (dWords.getD (i % 4) ""), .inl (((i : Int) / 4 / 12 + k) % 12), .inr ⟨#[ten.cps.toList.getD (i / 4 / 12 % 10) 0]⟩]
theorem mw_dup : ∀ k : Nat, k < 12 → ((List.range 120).map (mwKey (k : Int))).Nodup := by decide +kernel
theorem ten_letters : ∀ j : Nat, j < 10 → ten.cps.toList[j]? = some (ten.cps.toList.getD j 0) ∧ isSign (.str ⟨#[ten.cps.toList.getD j 0]⟩) = true := by decide +kernel
theorem four_words : ∀ j : Nat, j < 4 → dWords[j]? = some (dWords.getD j "") ∧ isDeed (.str (dWords.getD j "")) = true := by decide +kernel
theorem mw_way {k : Int} {i : Nat} : isWay (keyT (mwKey k i)) 12 = true :=
  way_of (Int.emod_nonneg _ (by decide)) (Int.emod_lt_of_pos _ (by decide)) (Int.emod_nonneg _ (by decide)) (Int.emod_lt_of_pos _ (by decide)) (four_words _ (Nat.mod_lt _ (by decide))).2 (ten_letters _ (Nat.mod_lt _ (by decide))).2
theorem kT_map : ∀ l : List (List Key), (l.map keyT).filterMap kT = l
  | [] => rfl
  | k :: l => by rw [List.map_cons, List.filterMap_cons_some (kT_keyT k), kT_map l]
def P18 (C : Nat → Fn) (i : Nat) : Prop := ∀ (k : Int) (h : Hc) (Q : Qv) (X : Qx), 0 ≤ k → k < 12 → (∀ ws, ws.all (isWay · 12) = true → (ws.filterMap kT).Nodup → 101 ≤ ws.length → ws.length ≤ 1300 → Q (.tup ws) h) → C i [.int 12, .int k] h Q X
theorem ok_many {C : Nat → Fn} {L : Cls} {k : Int} {h : Hc} {Q : Qv} {X : Qx} (k0 : 0 ≤ k) (k1 : k < 12) (q : ∀ ws, ws.all (isWay · 12) = true → (ws.filterMap kT).Nodup → 101 ≤ ws.length → ws.length ≤ 1300 → Q (.tup ws) h) : wpF C L ⟨2, 5, m_law_many_ways⟩ [.int 12, .int k] h Q X := by
  have line := line_ge
  refine ⟨rfl, ?_⟩
  unfold m_law_many_ways
  refine seq_ (fun σ' h' => ∃ r, h r = none ∧ σ' = [some (.int 12), some (.int k), some (.ref r), none, none] ∧ h' = hset h r (.lst [])) (fun kk hk => ?_) fun σ' h' ⟨r, nr, e1, e2⟩ => ?_
  · try trivial
    exact ⟨Nat.zero_le _, fun r nr => hk _ _ ⟨r, nr, rfl, rfl⟩⟩
  subst e1 e2
  refine seq_ (fun σ' h' => ∃ l l2, Sub h h' ∧ σ' = [some (.int 12), some (.int k), some (.ref r), l, l2] ∧ h' r = some (.lst (((List.range 1300).map (mwKey k)).map keyT))) (fun kk hk => ?_) fun σ' h' ⟨l, l2, s, e1, er⟩ => ?_
  · refine .inl ?_
    try trivial
    refine ⟨rfl, rng_one (by decide) (by decide) ?_⟩
    refine for_rng (n := 1300) (fun i σ' h' => ∃ l l2, Sub h h' ∧ σ' = [some (.int 12), some (.int k), some (.ref r), l, l2] ∧ h' r = some (.lst (((List.range i).map (mwKey k)).map keyT)))
      (fun i σ' h' lt ⟨l, l2, s, e1, er⟩ => ⟨True.intro, fun kk hk => ?_⟩) (fun σ' h' ⟨l, l2, s, e1, er⟩ => ⟨True.intro, hk _ _ ⟨l, l2, s, e1, er⟩⟩) ⟨none, none, (Sub.refl h).put nr, rfl, hset_same⟩
    subst e1
    try trivial
    rw [show (0 : Int) + (i : Int) = (i : Int) by omega]
    refine ⟨by omega, fun p np => ?_⟩
    try trivial
    have w4 : (i : Int) % 4 = ((i % 4 : Nat) : Int) := by omega
    obtain ⟨a1, _⟩ := four_words (i % 4) (Nat.mod_lt _ (by decide))
    refine ⟨by omega, ix_lst (.inl hset_same) (at_of (v := .str (dWords.getD (i % 4) "")) (by omega) ?_) ?_⟩
    · rw [w4, Int.toNat_natCast, show ([D.str "up", D.str "down", D.str "stay", D.str "zero"] : List D) = dWords.map D.str from rfl, List.getElem?_map, a1]; rfl
    try trivial
    have er2 := hs_keep (o := .lst [D.str "up", D.str "down", D.str "stay", D.str "zero"]) er np
    have s2 := s.put (o := .lst [D.str "up", D.str "down", D.str "stay", D.str "zero"]) (un_of s np)
    refine ⟨⟨r, rfl, _, .inl er2⟩, ?_⟩
    have w10 : (i : Int) / 4 / 12 % 10 = ((i / 4 / 12 % 10 : Nat) : Int) := by omega
    obtain ⟨b1, _⟩ := ten_letters (i / 4 / 12 % 10) (Nat.mod_lt _ (by decide))
    repeat refine ⟨by decide, ?_⟩
    refine ⟨_, _, rfl, by have : (("abcdefghij" : Str)).length = 10 := rfl; omega, (show atI ten.cps.toList ((i : Int) / 4 / 12 % 10) = some (ten.cps.toList.getD (i / 4 / 12 % 10) 0) from ?_), ?_⟩
    · rw [w10]; exact atI_nat b1
    try trivial
    refine ⟨by omega, r, _, _, rfl, rfl, er2, by rw [List.length_map, List.length_map, List.length_range]; omega, hk _ _ ⟨_, _, s2.put nr, rfl, ?_⟩⟩
    rw [hset_same, List.range_succ, List.map_append, List.map_append]
    rfl
  subst e1
  try trivial
  have inK : ∀ x ∈ (List.range 1300).map (mwKey k), ∃ i, x = mwKey k i := fun x hx => by
    obtain ⟨i, _, e⟩ := List.mem_map.mp hx
    exact ⟨i, e.symm⟩
  refine ⟨_, _, (List.range 1300).map (mwKey k), [false, true, false], rfl, .inr ⟨r, rfl, .inl er⟩, rfl, by rw [List.length_map, List.length_range]; omega, fun x hx => ?_, fun p l np nd mem _ => .here ?_⟩
  · obtain ⟨i, rfl⟩ := inK x hx
    rfl
  refine ⟨_, _, rfl, .inr ⟨p, rfl, .inl hset_same⟩, .here ?_⟩
  try trivial
  refine .to (s.put (un_of s np)) (q _ ?_ ?_ ?_ ?_)
  · rw [List.all_eq_true]
    intro d hd
    obtain ⟨x, hx, rfl⟩ := List.mem_map.mp hd
    obtain ⟨i, rfl⟩ := inK x ((mem x).mp hx)
    exact mw_way
  · rw [kT_map]; exact nd
  · have a := mw_dup k.toNat (by omega)
    rw [Int.toNat_of_nonneg k0] at a
    have := pig _ l a fun x hx => (mem x).mpr (by
      obtain ⟨i, hi, e⟩ := List.mem_map.mp hx
      exact List.mem_map.mpr ⟨i, List.mem_range.mpr (by have := List.mem_range.mp hi; omega), e⟩)
    rw [List.length_map, List.length_range] at this
    rw [List.length_map]; omega
  · have := pig l _ nd fun x hx => (mem x).mp hx
    rw [List.length_map, List.length_range] at this
    rw [List.length_map]; exact this
end Sr

set_option Elab.async false
set_option linter.all false
set_option maxRecDepth 100000
set_option autoImplicit false
set_option maxHeartbeats 1000000
/-! SrP18: signs -/
namespace Sr
open PySem L2
/-- the words that are opened -/
local macro_rules | `(tactic| trivial) => `(tactic| simp only [wpSs, wpS, wpE, wpEs, wpT, wpCs, wpTg, wpTgs, wpIt, wpIsi, wip, begn, List.map_cons, List.map_nil, List.length_cons, List.length_nil, List.replicate, List.nil_append, List.cons_append, List.append_nil, List.getElem?_cons_zero, List.getElem?_cons_succ, List.set_cons_zero, List.set_cons_succ,
  Option.some.injEq, exists_eq_left', exists_eq_left, Nat.sub_self, Nat.reduceSub, Nat.reduceAdd, exists_and_left, ↓reduceIte, Bool.not_true, Bool.not_false, Bool.false_eq_true, isTy_iff, tru_bl, tru_int, tru_tup, and_assoc, bl_inj, add_int, sub_int, mul_int, fdiv_int, mod_int, pow_int, add_tup, add_str, aug_add, aug_sub, eq_int, ne_int, eq_bl, ne_bl, eq_str, ne_str, lt_int, le_int, gt_int, ge_int, is_bl, isnot_bl])
theorem sl_tup {xs : List D} {lo hi : Option Int} {h : Hc} {Q : Qv} (q : Q (.tup (cutD xs lo hi)) h) : wpSl (.tup xs) lo hi h Q := q
theorem tup_add {xs ys : List D} {h : Hc} {Q : Qv} (l : xs.length + ys.length ≤ sizeLine) (q : Q (.tup (xs ++ ys)) h) : wpBin .add (.tup xs) (.tup ys) h Q := ⟨l, q⟩
def sgnS : Str := (" !\"#$&'()*+,-./0123456789:;<=>?@ABCDEFGHIJKLMNOPQRSTUVWXYZ[\\]^_`" : Str) ++ ("abcdefghijklmnopqrstuvwxyz{|}~" : Str)
theorem sgn_len : sgnS.length = 94 ∧ sgnS.cps.toList.length = 94 := by decide +kernel
def P19 (C : Nat → Fn) (i : Nat) : Prop := ∀ (h : Hc) (Q : Qv) (X : Qx), Q (.str sgnS) h → C i [] h Q X
theorem ok_signs {C : Nat → Fn} {L : Cls} {h : Hc} {Q : Qv} {X : Qx} (q : Q (.str sgnS) h) : wpF C L ⟨0, 1, m_law_signs⟩ [] h Q X := by
  have line := line_ge
  refine ⟨rfl, ?_⟩
  unfold m_law_signs
  try trivial
  refine ⟨?_, .here q⟩
  have : (" !\"#$&'()*+,-./0123456789:;<=>?@ABCDEFGHIJKLMNOPQRSTUVWXYZ[\\]^_`" : Str).length + ("abcdefghijklmnopqrstuvwxyz{|}~" : Str).length ≤ 1000 := by decide +kernel
  omega
def P20 (C : Nat → Fn) (i : Nat) : Prop := ∀ (d : D) (k : Int) (z : Str) (h : Hc) (Q : Qv) (X : Qx), isHouse d = true → z.length ≤ 1000 → (∀ v, Gd h v → Q v h) → C i [d, .int k, .str z] h Q X
theorem ok_with {C : Nat → Fn} {L : Cls} {d : D} {k : Int} {z : Str} {h : Hc} {Q : Qv} {X : Qx} (hd : isHouse d = true) (lz : z.length ≤ 1000) (q : ∀ v, Gd h v → Q v h) : wpF C L ⟨3, 6, m_law_with_sign⟩ [d, .int k, .str z] h Q X := by
  have line := line_ge
  obtain ⟨m, ws, rfl, m1, m2, few, al, _⟩ := house_is hd
  have gz : Gd h (.str z) := (show z.length ≤ sizeLine by omega)
  refine ⟨rfl, ?_⟩
  unfold m_law_with_sign
  refine seq_ (fun σ' h' => h = h' ∧ σ' = [some (.tup [.int m, .tup ws]), some (.int k), some (.str z), some (.int m), some (.tup ws), none]) (fun k hk => ?_) fun σ' h' ⟨e1, e2⟩ => ?_
  · try trivial
    exact ⟨[.int m, .tup ws], .inl rfl, rfl, _, _, rfl, _, [], rfl, rfl, hk _ _ ⟨rfl, rfl⟩⟩
  subst e1 e2
  refine seq_ (fun σ' h' => h = h' ∧ σ' = [some (.tup [.int m, .tup ws]), some (.int k), some (.str z), some (.int m), some (.tup ws), none] ∧ 0 < ws.length) (fun kk hk => ?_) fun σ' h' ⟨e1, e2, e⟩ => ?_
  · try trivial
    refine len_tup (.here ?_)
    try trivial
    by_cases e : 0 < ws.length
    · rw [beq_eq_false_iff_ne.mpr (show (ws.length : Int) ≠ 0 by omega), if_neg (by decide)]
      exact hk _ _ ⟨rfl, rfl, e⟩
    · rw [beq_iff_eq.mpr (show (ws.length : Int) = 0 by omega), if_pos rfl]
      refine ⟨by omega, by omega, by omega, by omega, .here (q _ ?_)⟩
      have gu : Gd h (.str "up") := (show (("up" : Str)).length ≤ sizeLine by have : (("up" : Str)).length = 2 := rfl; omega)
      exact ⟨True.intro, ⟨⟨True.intro, gu, True.intro, gz, True.intro⟩, True.intro⟩, True.intro⟩
  subst e1 e2
  try trivial
  refine len_tup (.here ?_)
  try trivial
  have z1 := Int.emod_nonneg k (by omega : (ws.length : Int) ≠ 0)
  have z2 := Int.emod_lt_of_pos k (by omega : 0 < (ws.length : Int))
  generalize k % (ws.length : Int) = k2 at *
  have lt : k2.toNat < ws.length := by omega
  have gx := List.getElem?_eq_getElem lt
  generalize ws[k2.toNat] = w at gx
  have mem : w ∈ ws := List.mem_of_getElem? gx
  have gw : Gd h w := way_gd (List.all_eq_true.mp al w mem)
  obtain ⟨i, j, x, y, rfl, i0, i1, j0, j1, lx, ly⟩ := way_is2 (List.all_eq_true.mp al w mem)
  refine ⟨by omega, ?_⟩
  try trivial
  refine ⟨⟨none, rfl⟩, none, rfl, some k2, rfl, sl_tup ?_⟩
  refine ix_tup (at_of z1 gx) ?_
  refine ⟨⟨none, rfl⟩, none, rfl, some 3, rfl, sl_tup ?_⟩
  have lc := cut_len (ws := [.int i, .str x, .int j, .str y]) (lo := none) (hi := some 3)
  have l1 := cut_len (ws := ws) (lo := none) (hi := some k2)
  have l2 := cut_len (ws := ws) (lo := some (k2 + 1)) (hi := none)
  have l4 : ([.int i, .str x, .int j, .str y] : List D).length = 4 := rfl
  rw [l4] at lc
  refine ⟨by omega, tup_add (by show _ + 1 ≤ _; omega) ?_⟩
  refine ⟨by omega, tup_add (by show _ + 1 ≤ _; omega) ?_⟩
  refine ⟨⟨some (k2 + 1), rfl⟩, some (k2 + 1), rfl, none, rfl, sl_tup ?_⟩
  refine tup_add (by rw [List.length_append, List.length_singleton]; omega) ⟨by omega, .here (q _ ⟨True.intro, ?_, True.intro⟩)⟩
  exact Gds.app (Gds.app (cut_gd (ways_gd al)) (gds_one (show Gds h _ from Gds.app (cut_gd gw) (gds_one gz)))) (cut_gd (ways_gd al))
end Sr

set_option Elab.async false
set_option linter.all false
set_option maxRecDepth 100000
set_option autoImplicit false
set_option maxHeartbeats 1000000
/-! SrP19: the law -/
namespace Sr
open PySem L2
/-- the words that are opened -/
local macro_rules | `(tactic| trivial) => `(tactic| simp only [wpSs, wpS, wpE, wpEs, wpT, wpCs, wpTg, wpTgs, wpIt, wpIsi, wip, begn, List.map_cons, List.map_nil, List.length_cons, List.length_nil, List.replicate, List.nil_append, List.cons_append, List.append_nil, List.getElem?_cons_zero, List.getElem?_cons_succ, List.set_cons_zero, List.set_cons_succ,
  Option.some.injEq, exists_eq_left', exists_eq_left, Nat.sub_self, Nat.reduceSub, Nat.reduceAdd, exists_and_left, ↓reduceIte, Bool.not_true, Bool.not_false, Bool.false_eq_true, isTy_iff, tru_bl, tru_int, tru_tup, and_assoc, bl_inj, add_int, sub_int, mul_int, fdiv_int, mod_int, pow_int, add_tup, add_str, aug_add, aug_sub, eq_int, ne_int, eq_bl, ne_bl, eq_str, ne_str, lt_int, le_int, gt_int, ge_int, is_bl, isnot_bl])
theorem cut_take {ws : List D} {n : Nat} : cutD ws none (some (n : Int)) = ws.take n := by
  unfold cutD
  rw [HT.sIx_none, HT.sIx_nat, List.drop_zero, Nat.sub_zero]
  by_cases h : n ≤ ws.length
  · rw [Nat.min_eq_left h]
  · rw [Nat.min_eq_right (by omega), List.take_length, List.take_of_length_le (by omega)]
theorem house_take {ws : List D} {n : Nat} (al : ws.all (isWay · 12) = true) (nd : (ws.filterMap kT).Nodup) (l : n ≤ ws.length) : isHouse (.tup [.int 12, .tup (ws.take n)]) = decide (n ≤ 100) := by
  show (decide ((1 : Int) ≤ 12) && decide ((12 : Int) ≤ 12) && decide ((ws.take n).length ≤ 100) && (ws.take n).all (isWay · 12) && decide ((ws.take n).filterMap kT).Nodup) = _
  have a : (ws.take n).all (isWay · 12) = true := List.all_eq_true.mpr fun x hx => List.all_eq_true.mp al x (List.mem_of_mem_take hx)
  have b : ((ws.take n).filterMap kT).Nodup := by
    refine List.Sublist.nodup ?_ nd
    exact (List.take_sublist n ws).filterMap kT
  rw [a, decide_eq_true b, List.length_take, Nat.min_eq_left l]
  simp
def P21 (C : Nat → Fn) (i : Nat) : Prop := ∀ (a : Addr) (ns : List Int) (h : Hc) (Q : Qv) (X : Qx), RdL h a (ns.map D.int) → (∀ h', Q (.bl true) h') → C i [.ref a] h Q X
theorem ok_law {C : Nat → Fn} {L : Cls} (p5 : P5 C 5) (p6 : P6 C 6) (p8 : P8 C 8) (p14 : PH C 14) (p16 : P5 C 16) (p17 : P17 C 17) (p18 : P18 C 18) (p19 : P19 C 19) (p20 : P20 C 20) {a : Addr} {ns : List Int} {h : Hc} {Q : Qv} {X : Qx} (r : RdL h a (ns.map D.int)) (q : ∀ h', Q (.bl true) h') : wpF C L ⟨1, 10, m_law⟩ [.ref a] h Q X := by
  have line := line_ge
  refine ⟨rfl, ?_⟩
  unfold m_law
  refine seq_ (fun σ' h' => ∃ d, isHouse d = true ∧ Sub h h' ∧ σ' = [some (.ref a), some d, none, none, none, none, none, none, none, none]) (fun kk hk => ?_) fun σ' h1 ⟨d, hd, s, e⟩ => ?_
  · try trivial
    refine p6 a ns 0 h _ _ r (by decide) (by decide) fun c => ?_
    refine p14 c 999999937 h _ _ (by decide) fun d hd => hk _ _ ⟨d, hd, Sub.refl h, rfl⟩
  subst e
  refine seq_ (fun σ' h' => ∃ r2 v0 v1 v2, Sub h h' ∧ (0 ≤ v2 ∧ v2 < 12) ∧ h' r2 = some (.lst [.int v0, .int v1, .int v2]) ∧ σ' = [some (.ref a), some d, some (.ref r2), none, none, none, none, none, none, none]) (fun kk hk => ?_) fun σ' h2 ⟨r2, v0, v1, v2, s2, b2, er2, e⟩ => ?_
  · try trivial
    refine p6 a ns 1 h1 _ _ (r.sub s) (by decide) (by decide) fun c => ?_
    refine ⟨by omega, fun f nf => p8 c 999999929 f [100, 4, 12] _ _ _ (.inl (by rw [hset_same]; rfl)) (wid_of (by decide +kernel)) (by decide) (by decide) fun r2 vs nr dr => ?_⟩
    obtain ⟨_, nr0⟩ := hs_none nr
    match vs, dr with
    | [v0, v1, v2], dr =>
      exact hk _ _ ⟨r2, v0, v1, v2, (s.put (un_of s nf)).put (un_of s nr0), dr.2 2 v2 12 rfl rfl, hset_same, rfl⟩
    | [], dr => exact nomatch dr.1
    | [_], dr => exact nomatch dr.1
    | [_, _], dr => exact nomatch dr.1
    | _ :: _ :: _ :: _ :: _, dr => exact nomatch dr.1
  subst e
  have gd : ∀ {u : Hc}, Gd u d := house_gd hd
  refine seq_ (fun σ' h' => h2 = h' ∧ σ' = [some (.ref a), some d, some (.ref r2), none, none, none, none, none, none, none]) (fun kk hk => ?_) fun σ' h' ⟨e1, e2⟩ => ?_
  · try trivial
    refine p5 d h2 _ _ gd ?_
    try trivial
    rw [hd]
    rw [if_neg (by decide)]
    exact hk _ _ ⟨rfl, rfl⟩
  subst e1 e2
  refine seq_ (fun σ' h' => ∃ r3 xs, Sub h2 h' ∧ h' r3 = some (.lst xs) ∧ xs.length ≤ 3 ∧ (∀ x ∈ xs, ∃ z : Str, x = .str z ∧ z.length ≤ 1) ∧ σ' = [some (.ref a), some d, some (.ref r2), some (.ref r3), none, none, none, none, none, none]) (fun kk hk => ?_) fun σ' h3 ⟨r3, xs, s3, er3, l3, g3, e⟩ => ?_
  · try trivial
    refine p6 a ns 2 h2 _ _ (r.sub s2) (by decide) (by decide) fun c => ?_
    refine ⟨by omega, fun f nf => p8 c 999999893 f [94, 94, 94] _ _ _ (.inl (by rw [hset_same]; rfl)) (wid_of (by decide +kernel)) (by decide) (by decide) fun rr vs nr dr => ?_⟩
    obtain ⟨_, nr0⟩ := hs_none nr
    have lv : vs.length = 3 := dr.1
    have gv : ∀ x ∈ vs.map D.int, ∃ v : Int, x = .int v ∧ 0 ≤ v ∧ v < 94 := fun x hx => by
      obtain ⟨v, hv, rfl⟩ := List.mem_map.mp hx
      obtain ⟨i, hi, e⟩ := List.mem_iff_getElem.mp hv
      have g := List.getElem?_eq_getElem hi
      rw [e] at g
      have : i < 3 := by omega
      have w : ([94, 94, 94] : List Int)[i]? = some 94 := by
        match i, this with
        | 0, _ => rfl
        | 1, _ => rfl
        | 2, _ => rfl
      exact ⟨v, rfl, dr.2 i v 94 g w⟩
    have sA := ((Sub.refl h2).put nf (o := .lst [D.int 94, D.int 94, D.int 94])).put nr0 (o := .lst (vs.map D.int))
    refine .inl ⟨_, .inl hset_same, fun p np => ?_⟩
    have np2 := un_of sA np
    refine lc_ind (fun rest acc h' => Sub h2 h' ∧ h' rr = some (.lst (vs.map D.int)) ∧ (∀ x ∈ acc, ∃ z : Str, x = .str z ∧ z.length ≤ 1) ∧ (∀ x ∈ rest, ∃ v : Int, x = .int v ∧ 0 ≤ v ∧ v < 94) ∧ acc.length + rest.length ≤ 3) (fun z rest acc h' ⟨s, ea, ga, gr, le⟩ => ⟨.inl ea, fun kk2 hk2 ec => ?_⟩) (fun acc h' ⟨s, ea, ga, _, le⟩ ec => ⟨.inl ea, ?_⟩) _ [] _ ⟨sA.put np2, hs_keep hset_same np, fun x hx => (nomatch hx), gv, by rw [List.length_map]; simp [lv]⟩ hset_same
    · try trivial
      refine ⟨True.intro, ?_⟩
      refine p19 h' _ _ ?_
      try trivial
      obtain ⟨v, rfl, w0, w1⟩ := gr z (List.mem_cons.mpr (.inl rfl))
      rw [List.length_cons] at le
      refine ix_chr (fun _ => true) (by have := sgn_len.1; omega) w0 (by rw [sgn_len.2]; exact w1) (List.all_eq_true.mpr fun _ _ => rfl) fun ch _ => ?_
      refine ⟨acc, ec, by omega, hk2 _ _ ⟨s.put np2, ?_, fun x hx => ?_, fun x hx => gr x (List.mem_cons.mpr (.inr hx)), by rw [List.length_append, List.length_singleton]; omega⟩ hset_same⟩
      · have : rr ≠ p := fun z => by rw [← z, hset_same] at np; cases np
        rw [hset_ne this]; exact ea
      · rcases List.mem_append.mp hx with hx | hx
        · exact ga x hx
        · rw [List.mem_singleton.mp hx]; exact ⟨_, rfl, Nat.le_refl _⟩
    · exact hk _ _ ⟨p, acc, s, ec, by simpa using le, ga, rfl⟩
  subst e
  refine seq_ (fun σ' h' => ∃ r3 xs, Sub h2 h' ∧ h' r3 = some (.lst xs) ∧ xs.length ≤ 4 ∧ (∀ x ∈ xs, ∃ z : Str, x = .str z ∧ z.length ≤ 1) ∧ σ' = [some (.ref a), some d, some (.ref r2), some (.ref r3), none, none, none, none, none, none]) (fun kk hk => ?_) fun σ' h4 ⟨r3, xs, s4, er3, l3, g3, e⟩ => ?_
  · try trivial
    refine p6 a ns 3 h3 _ _ (r.sub (s2.trans s3)) (by decide) (by decide) fun c => ?_
    refine ⟨by omega, fun f nf => p8 c 999999883 f [26] _ _ _ (.inl (by rw [hset_same]; rfl)) (wid_of (by decide +kernel)) (by decide) (by decide) fun rr vs nr dr => ?_⟩
    obtain ⟨_, nr0⟩ := hs_none nr
    refine ix_drawn dr (.inl hset_same) 0 (w := 26) rfl fun v _ w0 w1 => ?_
    refine ix_chr (fun _ => true) (by have : (("abcdefghijklmnopqrstuvwxyz" : Str)).length = 26 := rfl; omega) w0 w1 (List.all_eq_true.mpr fun _ _ => rfl) fun ch _ => ?_
    refine ⟨by omega, fun p np => ?_⟩
    have sA := ((Sub.refl h3).put nf (o := .lst [D.int 26])).put nr0 (o := .lst (vs.map D.int))
    have sB := sA.put (un_of sA np) (o := .lst [.str ⟨#[ch]⟩])
    refine ⟨xs, _, sB _ _ er3, hset_same, by show _ + 1 ≤ _; omega, fun p2 np2 => hk _ _ ⟨p2, _, s3.trans (sB.put (un_of sB np2)), hset_same, by rw [List.length_append, List.length_singleton]; omega, fun x hx => ?_, rfl⟩⟩
    rcases List.mem_append.mp hx with hx | hx
    · exact g3 x hx
    · rw [List.mem_singleton.mp hx]; exact ⟨_, rfl, Nat.le_refl _⟩
  subst e
  refine seq_ (fun σ' h' => ∃ r5 ys, Sub h2 h' ∧ h' r5 = some (.lst ys) ∧ ys.length ≤ 4 ∧ Gds h' ys ∧ σ' = [some (.ref a), some d, some (.ref r2), some (.ref r3), none, some (.ref r5), none, none, none, none]) (fun kk hk => ?_) fun σ' h5 ⟨r5, ys, s5, er5, l5, g5, e⟩ => ?_
  · try trivial
    refine .inl ⟨xs, .inl er3, fun p np => ?_⟩
    have np2 := un_of s4 np
    refine lc_ind (fun rest acc h' => Sub h4 h' ∧ Gds h' acc ∧ (∀ x ∈ rest, ∃ z : Str, x = .str z ∧ z.length ≤ 1) ∧ acc.length + rest.length ≤ 4) (fun z rest acc h' ⟨s, ga, gr, le⟩ => ⟨.inl (s _ _ er3), fun kk2 hk2 ec => ?_⟩) (fun acc h' ⟨s, ga, _, le⟩ ec => ⟨.inl (s _ _ er3), ?_⟩) _ [] _ ⟨(Sub.refl h4).put np, True.intro, g3, by simpa using l3⟩ hset_same
    · try trivial
      obtain ⟨v, rfl, w0⟩ := gr z (List.mem_cons.mpr (.inl rfl))
      rw [List.length_cons] at le
      refine ⟨True.intro, ?_⟩
      refine ix_lst (.inl (s _ _ (s4 _ _ er2))) (v := .int v0) rfl ?_
      try trivial
      refine p20 d v0 v h' _ _ hd (by omega) fun y gy => ⟨acc, ec, by omega, hk2 _ _ ⟨s.put np, Gds.app (Gds.put ga) (gds_one (Gd.put gy)), fun x hx => gr x (List.mem_cons.mpr (.inr hx)), by rw [List.length_append, List.length_singleton]; omega⟩ hset_same⟩
    · exact hk _ _ ⟨p, acc, s4.trans s, ec, by simpa using le, ga, rfl⟩
  subst e
  refine seq_ (fun σ' h' => ∃ l4 l7 l8, Sub h2 h' ∧ σ' = [some (.ref a), some d, some (.ref r2), some (.ref r3), l4, some (.ref r5), none, l7, l8, none]) (fun kk hk => ?_) fun σ' h6 ⟨l4, l7, l8, s6, e⟩ => ?_
  · refine .inl ?_
    try trivial
    refine ix_lst (.inl (s5 _ _ er2)) (v := .int v0) rfl ?_
    try trivial
    refine p17 d v0 h5 _ _ hd fun rb h' gb => ?_
    obtain ⟨zs, e1, e2, e3⟩ := gb.x
    refine ⟨ys, zs, gb.s _ _ er5, e1, by omega, fun p np => ?_⟩
    have sA := gb.s.put (un_of gb.s np) (o := .lst (ys ++ zs))
    have gA : Gds (hset h' p (.lst (ys ++ zs))) (ys ++ zs) := Gds.app (g5.sub sA) (e2.sub (Sub.new np))
    refine .inl ⟨ys ++ zs, .inl hset_same, ?_⟩
    have hp : hset h' p (.lst (ys ++ zs)) p = some (.lst (ys ++ zs)) := hset_same
    generalize hset h' p (.lst (ys ++ zs)) = hB at *
    refine for_at (fun i σ' h'' => ∃ l7 l8, hB = h'' ∧ σ' = [some (.ref a), some d, some (.ref r2), some (.ref r3), none, some (.ref r5), none, l7, l8, none])
      (fun i x σ' h'' ex ⟨l7, l8, e1, e2⟩ => ⟨?_, fun k hk => ?_⟩) (fun σ' h'' ⟨l7, l8, e1, e2⟩ => ⟨?_, hk _ _ ⟨none, l7, l8, ?_, e2⟩⟩) ⟨none, none, rfl, rfl⟩
    · subst e1; exact .inl hp
    · subst e1 e2
      try trivial
      have gx : Gd hB x := gA.get (List.mem_of_getElem? ex)
      refine p5 x hB _ _ gx ?_
      try trivial
      refine ⟨.bl, ?_⟩
      rw [if_neg (show ¬ (!tyB (.bl (isHouse x)) .bool) = true from Bool.false_ne_true)]
      refine p16 x hB _ _ gx ?_
      try trivial
      rw [bne_self_eq_false, if_neg (by decide)]
      exact hk _ _ ⟨_, _, rfl, rfl⟩
    · subst e1; exact .inl hp
    · subst e1; exact s5.trans sA
  subst e
  refine seq_ (fun σ' h' => ∃ l4 l7 l8 l9, σ' = [some (.ref a), some d, some (.ref r2), some (.ref r3), l4, some (.ref r5), none, l7, l8, l9]) (fun kk hk => ?_) fun σ' h7 ⟨l4, l7, l8, l9, e⟩ => ?_
  · try trivial
    refine ix_lst (.inl (s6 _ _ er2)) (v := .int v1) rfl ?_
    try trivial
    by_cases ev : v1 = 0
    · rw [beq_iff_eq.mpr ev, if_pos rfl]
      refine ix_lst (.inl (s6 _ _ er2)) (v := .int v2) rfl ?_
      try trivial
      refine p18 v2 h6 _ _ b2.1 b2.2 fun ws al nd len few => ?_
      try trivial
      refine .inl ⟨by omega, ?_⟩
      rw [walk_tup]
      refine for_at (fun i σ' h'' => ∃ l4, h6 = h'' ∧ σ' = [some (.ref a), some d, some (.ref r2), some (.ref r3), l4, some (.ref r5), none, l7, l8, some (.tup ws)])
        (fun i x σ' h'' ex ⟨l4, e1, e2⟩ => ⟨True.intro, fun k hk2 => ?_⟩) (fun σ' h'' ⟨l4, e1, e2⟩ => ⟨True.intro, hk _ _ ⟨l4, l7, l8, _, e2⟩⟩) ⟨l4, rfl, rfl⟩
      subst e1 e2
      obtain ⟨n, rfl, n1, n2⟩ : ∃ n : Nat, x = .int (n : Int) ∧ 99 ≤ n ∧ n ≤ 101 := by
        have := List.mem_of_getElem? ex
        simp only [List.mem_cons, List.not_mem_nil, or_false] at this
        rcases this with rfl | rfl | rfl
        · exact ⟨99, rfl, by decide, by decide⟩
        · exact ⟨100, rfl, by decide, by decide⟩
        · exact ⟨101, rfl, by decide, by decide⟩
      refine ⟨_, rfl, ⟨none, rfl⟩, _, rfl, none, rfl, some (n : Int), rfl, sl_tup ?_⟩
      rw [cut_take]
      have gt : Gd h6 (.tup [.int 12, .tup (ws.take n)]) := ⟨True.intro, (show Gds h6 _ from Gds.of fun x hx => (ways_gd al).get (List.mem_of_mem_take hx)), True.intro⟩
      refine ⟨by omega, p5 _ h6 _ _ gt ⟨_, rfl, ?_⟩⟩
      rw [house_take al nd (by omega : n ≤ ws.length)]
      rw [lt_int, ne_bl]
      have : (decide (n ≤ 100) != decide ((n : Int) < 101)) = false := by
        rw [show decide (n ≤ 100) = decide ((n : Int) < 101) from decide_eq_decide.mpr (by omega), bne_self_eq_false]
      rw [this]
      exact ⟨_, rfl, hk2 _ _ ⟨_, rfl, rfl⟩⟩
    · rw [beq_eq_false_iff_ne.mpr ev, if_neg (by decide)]
      exact hk _ _ ⟨_, _, _, _, rfl⟩
  subst e
  try trivial
  refine p5 d h7 _ _ gd ?_
  try trivial
  rw [hd]
  exact .here (q _)
end Sr

set_option Elab.async false
set_option linter.all false
set_option maxRecDepth 100000
set_option autoImplicit false
/-! SrC1: the promises of k13, each at its level of calls -/
namespace Sr
open PySem L2
section
variable {T : Nat → Option FDef} {L : Cls}
theorem c1 (e : T 1 = some ⟨1, 1, m_whole_number⟩) (n : Nat) : P1 (cN T L (n + 1)) 1 := fun _ _ _ _ k q => cN_of e (ok_whole k q)
theorem c2 (e : T 2 = some ⟨2, 2, m_room_of⟩) {n : Nat} (p1 : P1 (cN T L n) 1) : P2 (cN T L (n + 1)) 2 := fun _ _ _ _ _ k q => cN_of e (ok_room p1 k q)
theorem c3 (e : T 3 = some ⟨1, 1, m_sign_of_way⟩) (n : Nat) : P3 (cN T L (n + 1)) 3 := fun _ _ _ _ k s q => cN_of e (ok_sign k s q)
theorem c4 (e : T 4 = some ⟨2, 6, m_way_of⟩) {n : Nat} (p2 : P2 (cN T L n) 2) (p3 : P3 (cN T L n) 3) : P4 (cN T L (n + 1)) 4 := fun _ _ _ _ _ g q => cN_of e (ok_way p2 p3 g q)
theorem c5 (e : T 5 = some ⟨1, 4, m_is_house⟩) {n : Nat} (p1 : P1 (cN T L n) 1) (p4 : P4 (cN T L n) 4) : P5 (cN T L (n + 1)) 5 := fun _ _ _ _ g q => cN_of e (ok_is_house p1 p4 g q)
theorem c6 (e : T 6 = some ⟨2, 2, m_law_cell⟩) (n : Nat) : P6 (cN T L (n + 1)) 6 := fun _ _ _ _ _ _ r k0 k1 q => cN_of e (ok_cell r k0 k1 q)
theorem c7 (e : T 7 = some ⟨3, 4, m_law_mixed⟩) (n : Nat) : P7 (cN T L (n + 1)) 7 := fun _ _ _ _ _ _ k0 k1 p0 q => cN_of e (ok_mixed k0 k1 p0 q)
theorem c8 (e : T 8 = some ⟨3, 6, m_law_draws⟩) {n : Nat} (p7 : P7 (cN T L n) 7) : P8 (cN T L (n + 1)) 8 := fun _ _ _ _ _ _ _ rb wid few p0 q => cN_of e (ok_draws p7 rb wid few p0 q)
theorem c9 (e : T 9 = some ⟨2, 2, m_law_spare⟩) (n : Nat) : P9 (cN T L (n + 1)) 9 := fun _ _ _ _ _ w0 w1 q => cN_of e (ok_spare w0 w1 q)
theorem c10 (e : T 10 = some ⟨1, 3, m_law_unlike⟩) (n : Nat) : P10 (cN T L (n + 1)) 10 := fun _ _ _ _ _ _ rb al few q => cN_of e (ok_unlike rb al few q)
theorem c11 (e : T 11 = some ⟨2, 12, m_law_drawn_house⟩) {n : Nat} (p8 : P8 (cN T L n) 8) (p10 : P10 (cN T L n) 10) : PH (cN T L (n + 1)) 11 := fun _ _ _ _ _ p0 q => cN_of e (ok_drawn p8 p10 p0 q)
theorem c12 (e : T 12 = some ⟨2, 8, m_law_ring_house⟩) {n : Nat} (p8 : P8 (cN T L n) 8) : PH (cN T L (n + 1)) 12 := fun _ _ _ _ _ p0 q => cN_of e (ok_ring p8 p0 q)
theorem c13 (e : T 13 = some ⟨2, 8, m_law_gate_house⟩) {n : Nat} (p8 : P8 (cN T L n) 8) (p10 : P10 (cN T L n) 10) : PH (cN T L (n + 1)) 13 := fun _ _ _ _ _ p0 q => cN_of e (ok_gate p8 p10 p0 q)
theorem c14 (e : T 14 = some ⟨2, 4, m_law_house⟩) {n : Nat} (p8 : P8 (cN T L n) 8) (p9 : P9 (cN T L n) 9) (p11 : PH (cN T L n) 11) (p12 : PH (cN T L n) 12) (p13 : PH (cN T L n) 13) : PH (cN T L (n + 1)) 14 := fun _ _ _ _ _ p0 q => cN_of e (ok_house p8 p9 p11 p12 p13 p0 q)
theorem c15 (e : T 15 = some ⟨1, 1, m_law_whole⟩) (n : Nat) : P1 (cN T L (n + 1)) 15 := fun _ _ _ _ k q => cN_of e (ok_lwhole k q)
theorem c16 (e : T 16 = some ⟨1, 4, m_law_is_house⟩) {n : Nat} (p15 : P1 (cN T L n) 15) : P5 (cN T L (n + 1)) 16 := fun _ _ _ _ g q => cN_of e (ok_lhouse p15 g q)
theorem c17 (e : T 17 = some ⟨2, 13, m_law_bad_things⟩) (n : Nat) : P17 (cN T L (n + 1)) 17 := fun _ _ _ _ _ hd q => cN_of e (ok_bad hd q)
theorem c18 (e : T 18 = some ⟨2, 5, m_law_many_ways⟩) (n : Nat) : P18 (cN T L (n + 1)) 18 := fun _ _ _ _ k0 k1 q => cN_of e (ok_many k0 k1 q)
theorem c19 (e : T 19 = some ⟨0, 1, m_law_signs⟩) (n : Nat) : P19 (cN T L (n + 1)) 19 := fun _ _ _ q => cN_of e (ok_signs q)
theorem c20 (e : T 20 = some ⟨3, 6, m_law_with_sign⟩) (n : Nat) : P20 (cN T L (n + 1)) 20 := fun _ _ _ _ _ _ hd lz q => cN_of e (ok_with hd lz q)
/-- the house's drawer, at its level -/
theorem lv14 (e7 : T 7 = some ⟨3, 4, m_law_mixed⟩) (e8 : T 8 = some ⟨3, 6, m_law_draws⟩) (e9 : T 9 = some ⟨2, 2, m_law_spare⟩) (e10 : T 10 = some ⟨1, 3, m_law_unlike⟩) (e11 : T 11 = some ⟨2, 12, m_law_drawn_house⟩) (e12 : T 12 = some ⟨2, 8, m_law_ring_house⟩) (e13 : T 13 = some ⟨2, 8, m_law_gate_house⟩) (e14 : T 14 = some ⟨2, 4, m_law_house⟩) (n : Nat) : PH (cN T L (n + 4)) 14 :=
  have p8 : ∀ n, P8 (cN T L (n + 2)) 8 := fun n => c8 e8 (c7 e7 n)
  c14 e14 (p8 (n + 1)) (c9 e9 (n + 2)) (c11 e11 (p8 n) (c10 e10 (n + 1))) (c12 e12 (p8 n)) (c13 e13 (p8 n) (c10 e10 (n + 1)))
/-- the house's look, at its level -/
theorem lv5 (e1 : T 1 = some ⟨1, 1, m_whole_number⟩) (e2 : T 2 = some ⟨2, 2, m_room_of⟩) (e3 : T 3 = some ⟨1, 1, m_sign_of_way⟩) (e4 : T 4 = some ⟨2, 6, m_way_of⟩) (e5 : T 5 = some ⟨1, 4, m_is_house⟩) (n : Nat) : P5 (cN T L (n + 4)) 5 :=
  c5 e5 (c1 e1 (n + 2)) (c4 e4 (c2 e2 (c1 e1 n)) (c3 e3 (n + 1)))
/-- the law of k13 -/
theorem law13 (e1 : T 1 = some ⟨1, 1, m_whole_number⟩) (e2 : T 2 = some ⟨2, 2, m_room_of⟩) (e3 : T 3 = some ⟨1, 1, m_sign_of_way⟩) (e4 : T 4 = some ⟨2, 6, m_way_of⟩) (e5 : T 5 = some ⟨1, 4, m_is_house⟩) (e6 : T 6 = some ⟨2, 2, m_law_cell⟩)
    (e7 : T 7 = some ⟨3, 4, m_law_mixed⟩) (e8 : T 8 = some ⟨3, 6, m_law_draws⟩) (e9 : T 9 = some ⟨2, 2, m_law_spare⟩) (e10 : T 10 = some ⟨1, 3, m_law_unlike⟩) (e11 : T 11 = some ⟨2, 12, m_law_drawn_house⟩) (e12 : T 12 = some ⟨2, 8, m_law_ring_house⟩) (e13 : T 13 = some ⟨2, 8, m_law_gate_house⟩) (e14 : T 14 = some ⟨2, 4, m_law_house⟩)
    (e15 : T 15 = some ⟨1, 1, m_law_whole⟩) (e16 : T 16 = some ⟨1, 4, m_law_is_house⟩) (e17 : T 17 = some ⟨2, 13, m_law_bad_things⟩) (e18 : T 18 = some ⟨2, 5, m_law_many_ways⟩) (e19 : T 19 = some ⟨0, 1, m_law_signs⟩) (e20 : T 20 = some ⟨3, 6, m_law_with_sign⟩) (e21 : T 21 = some ⟨1, 10, m_law⟩)
    (a : Addr) (ns : List Int) (h : Hc) (e : h a = some (.lck (.lst (ns.map D.int)))) : cN T L 5 21 [.ref a] h (fun v _ => v = .bl true) (fun _ _ => False) :=
  cN_of e21 (ok_law (lv5 e1 e2 e3 e4 e5 0) (c6 e6 3) (c8 e8 (c7 e7 2)) (lv14 e7 e8 e9 e10 e11 e12 e13 e14 0) (c16 e16 (c15 e15 2)) (c17 e17 3) (c18 e18 3) (c19 e19 3) (c20 e20 3) (.inr e) fun _ => rfl)
end
end Sr

set_option Elab.async false
set_option linter.all false
set_option maxRecDepth 100000
set_option autoImplicit false
set_option maxHeartbeats 0
/-! the row stairrooms_k13_is_house: its head, its defs, its law -/
namespace Hd
open PySem PySem.Spec PyProof.Rows L2
def top (i : Nat) : Stmt := PySem.Challenge.pw_stairrooms_k13_is_house.main.body.getD i (.Pass ⟨0, 0, 0, 0⟩)
def names0 : List PySem.Str := ["MOST_ROOMS", "MOST_WAYS", "LETTERS", "RAISES", "whole_number", "room_of", "sign_of_way", "way_of", "is_house", "_law_cell", "_law_mixed", "_law_draws", "_law_spare", "_law_unlike", "_law_drawn_house", "_law_ring_house", "_law_gate_house", "_law_house", "_law_whole", "_law_is_house", "_law_bad_things", "_law_many_ways", "_law_signs", "_law_with_sign"]
def names : List PySem.Str := names0
def d5 : He.DefD := ⟨("whole_number", none), "whole_number", "whole_number", defArgs (top 5), defBody (top 5), defScope (top 5), [], []⟩
def d6 : He.DefD := ⟨("room_of", none), "room_of", "room_of", defArgs (top 6), defBody (top 6), defScope (top 6), [], []⟩
def d7 : He.DefD := ⟨("sign_of_way", none), "sign_of_way", "sign_of_way", defArgs (top 7), defBody (top 7), defScope (top 7), [], []⟩
def d8 : He.DefD := ⟨("way_of", none), "way_of", "way_of", defArgs (top 8), defBody (top 8), defScope (top 8), [], []⟩
def d9 : He.DefD := ⟨("is_house", none), "is_house", "is_house", defArgs (top 9), defBody (top 9), defScope (top 9), [], []⟩
def d11 : He.DefD := ⟨("_law_cell", none), "_law_cell", "_law_cell", defArgs (top 11), defBody (top 11), defScope (top 11), [], []⟩
def d12 : He.DefD := ⟨("_law_mixed", none), "_law_mixed", "_law_mixed", defArgs (top 12), defBody (top 12), defScope (top 12), [], []⟩
def d13 : He.DefD := ⟨("_law_draws", none), "_law_draws", "_law_draws", defArgs (top 13), defBody (top 13), defScope (top 13), [], []⟩
def d14 : He.DefD := ⟨("_law_spare", none), "_law_spare", "_law_spare", defArgs (top 14), defBody (top 14), defScope (top 14), [], []⟩
def d15 : He.DefD := ⟨("_law_unlike", none), "_law_unlike", "_law_unlike", defArgs (top 15), defBody (top 15), defScope (top 15), [], []⟩
def d16 : He.DefD := ⟨("_law_drawn_house", none), "_law_drawn_house", "_law_drawn_house", defArgs (top 16), defBody (top 16), defScope (top 16), [], []⟩
def d17 : He.DefD := ⟨("_law_ring_house", none), "_law_ring_house", "_law_ring_house", defArgs (top 17), defBody (top 17), defScope (top 17), [], []⟩
def d18 : He.DefD := ⟨("_law_gate_house", none), "_law_gate_house", "_law_gate_house", defArgs (top 18), defBody (top 18), defScope (top 18), [], []⟩
def d19 : He.DefD := ⟨("_law_house", none), "_law_house", "_law_house", defArgs (top 19), defBody (top 19), defScope (top 19), [], []⟩
def d20 : He.DefD := ⟨("_law_whole", none), "_law_whole", "_law_whole", defArgs (top 20), defBody (top 20), defScope (top 20), [], []⟩
def d21 : He.DefD := ⟨("_law_is_house", none), "_law_is_house", "_law_is_house", defArgs (top 21), defBody (top 21), defScope (top 21), [], []⟩
def d22 : He.DefD := ⟨("_law_bad_things", none), "_law_bad_things", "_law_bad_things", defArgs (top 22), defBody (top 22), defScope (top 22), [], []⟩
def d23 : He.DefD := ⟨("_law_many_ways", none), "_law_many_ways", "_law_many_ways", defArgs (top 23), defBody (top 23), defScope (top 23), [], []⟩
def d24 : He.DefD := ⟨("_law_signs", none), "_law_signs", "_law_signs", defArgs (top 24), defBody (top 24), defScope (top 24), [], []⟩
def d25 : He.DefD := ⟨("_law_with_sign", none), "_law_with_sign", "_law_with_sign", defArgs (top 25), defBody (top 25), defScope (top 25), [], []⟩
def d26 : He.DefD := ⟨("law", none), "law", "law", defArgs (top 26), defBody (top 26), defScope (top 26), [], []⟩
def gam0 : List (PySem.Str × Sr.Gk) := [("whole_number", .fn 1), ("room_of", .fn 2), ("sign_of_way", .fn 3), ("way_of", .fn 4), ("is_house", .fn 5), ("_law_cell", .fn 6), ("_law_mixed", .fn 7), ("_law_draws", .fn 8), ("_law_spare", .fn 9), ("_law_unlike", .fn 10), ("_law_drawn_house", .fn 11), ("_law_ring_house", .fn 12)]
def gam1 : List (PySem.Str × Sr.Gk) := [("_law_gate_house", .fn 13), ("_law_house", .fn 14), ("_law_whole", .fn 15), ("_law_is_house", .fn 16), ("_law_bad_things", .fn 17), ("_law_many_ways", .fn 18), ("_law_signs", .fn 19), ("_law_with_sign", .fn 20), ("law", .fn 21), ("MOST_ROOMS", .con (.int 12)), ("MOST_WAYS", .con (.int 100)), ("LETTERS", .con (.str "abcdefghijklmnopqrstuvwxyz"))]
def gam2 : List (PySem.Str × Sr.Gk) := [("RAISES", .tab [(.str "up", .int 1), (.str "down", .int (-1)), (.str "stay", .int 0), (.str "zero", .int 0)])]
def gam : List (PySem.Str × Sr.Gk) := gam0 ++ gam1 ++ gam2
def r5 : Sr.Fd := ⟨1, d5, ["thing"], ["thing"], ⟨1, 1, Sr.m_whole_number⟩⟩
def r6 : Sr.Fd := ⟨2, d6, ["thing", "many"], ["thing", "many"], ⟨2, 2, Sr.m_room_of⟩⟩
def r7 : Sr.Fd := ⟨3, d7, ["thing"], ["thing"], ⟨1, 1, Sr.m_sign_of_way⟩⟩
def r8 : Sr.Fd := ⟨4, d8, ["thing", "many", "room", "deed", "other", "sign"], ["thing", "many"], ⟨2, 6, Sr.m_way_of⟩⟩
def r9 : Sr.Fd := ⟨5, d9, ["thing", "many", "ways", "way"], ["thing"], ⟨1, 4, Sr.m_is_house⟩⟩
def r11 : Sr.Fd := ⟨6, d11, ["_law_script", "_law_k"], ["_law_script", "_law_k"], ⟨2, 2, Sr.m_law_cell⟩⟩
def r12 : Sr.Fd := ⟨7, d12, ["_law_cell_here", "_law_k", "_law_prime", "_law_far"], ["_law_cell_here", "_law_k", "_law_prime"], ⟨3, 4, Sr.m_law_mixed⟩⟩
def r13 : Sr.Fd := ⟨8, d13, ["_law_cell_here", "_law_widths", "_law_prime", "_law_left", "_law_found", "_law_k"], ["_law_cell_here", "_law_widths", "_law_prime"], ⟨3, 6, Sr.m_law_draws⟩⟩
def r14 : Sr.Fd := ⟨9, d14, ["_law_cell_here", "_law_width"], ["_law_cell_here", "_law_width"], ⟨2, 2, Sr.m_law_spare⟩⟩
def r15 : Sr.Fd := ⟨10, d15, ["_law_ways", "_law_found", "_law_way"], ["_law_ways"], ⟨1, 3, Sr.m_law_unlike⟩⟩
def r16 : Sr.Fd := ⟨11, d16, ["_law_cell_here", "_law_prime", "_law_draws_here", "_law_many", "_law_often", "_law_ways", "_law_k", "_law_room", "_law_deed", "_law_other", "_law_sign", "_law_word"], ["_law_cell_here", "_law_prime"], ⟨2, 12, Sr.m_law_drawn_house⟩⟩
def r17 : Sr.Fd := ⟨12, d17, ["_law_cell_here", "_law_prime", "_law_draws_here", "_law_one", "_law_two", "_law_many", "_law_ways", "_law_k"], ["_law_cell_here", "_law_prime"], ⟨2, 8, Sr.m_law_ring_house⟩⟩
def r18 : Sr.Fd := ⟨13, d18, ["_law_cell_here", "_law_prime", "_law_draws_here", "_law_up", "_law_down", "_law_many", "_law_ways", "_law_k"], ["_law_cell_here", "_law_prime"], ⟨2, 8, Sr.m_law_gate_house⟩⟩
def r19 : Sr.Fd := ⟨14, d19, ["_law_cell_here", "_law_prime", "_law_kind", "_law_left"], ["_law_cell_here", "_law_prime"], ⟨2, 4, Sr.m_law_house⟩⟩
def r20 : Sr.Fd := ⟨15, d20, ["_law_found"], ["_law_found"], ⟨1, 1, Sr.m_law_whole⟩⟩
def r21 : Sr.Fd := ⟨16, d21, ["_law_thing", "_law_many", "_law_ways", "_law_way"], ["_law_thing"], ⟨1, 4, Sr.m_law_is_house⟩⟩
def r22 : Sr.Fd := ⟨17, d22, ["_law_house_here", "_law_at", "_law_many", "_law_ways", "_law_found", "_law_room", "_law_deed", "_law_other", "_law_sign", "_law_low", "_law_high", "_law_some", "_law_way"], ["_law_house_here", "_law_at"], ⟨2, 13, Sr.m_law_bad_things⟩⟩
def r23 : Sr.Fd := ⟨18, d23, ["_law_many", "_law_first", "_law_found", "_law_k", "_law_deed"], ["_law_many", "_law_first"], ⟨2, 5, Sr.m_law_many_ways⟩⟩
def r24 : Sr.Fd := ⟨19, d24, ["_law_some"], [], ⟨0, 1, Sr.m_law_signs⟩⟩
def r25 : Sr.Fd := ⟨20, d25, ["_law_house_here", "_law_way", "_law_sign", "_law_many", "_law_ways", "_law_at"], ["_law_house_here", "_law_way", "_law_sign"], ⟨3, 6, Sr.m_law_with_sign⟩⟩
def r26 : Sr.Fd := ⟨21, d26, ["_law_script", "_law_house_here", "_law_way", "_law_signs_here", "_law_k", "_law_some", "_law_sign", "_law_thing", "_law_found", "_law_ways"], ["_law_script"], ⟨1, 10, Sr.m_law⟩⟩
def tbl : List Sr.Fd := [r5, r6, r7, r8, r9, r11, r12, r13, r14, r15, r16, r17, r18, r19, r20, r21, r22, r23, r24, r25, r26]
abbrev R : PySem.W.OpenRow := PySem.W.OpenLaw.row PySem.Challenge.rw_stairrooms_k13_is_house
abbrev hk : PySem.W.Hook := He.hookX 4 (Sr.faOf gam) (tbl.map (·.d)) (Sr.tsOf gam) [] (Sr.exG gam)
def ob (s : PySem.W.SharedT) : He.AlX := He.obsX 4 (Sr.faOf gam) (tbl.map (·.d)) (Sr.tsOf gam) [] (Sr.exG gam) (HandSHeadRun.getT s)
theorem ob_eq (s : PySem.W.SharedT) : ob s = hk.obs s.abs := He.obsX_eq (HandSHeadRun.getT_eq s)
theorem run (w : World) : HandSHeadRun.RunEq R (PySem.W.view R.prog [26]) hk ob 20000 names w := by
  refine PySem.W.byRow2 "special-get-raises" (P := fun w => HandSHeadRun.RunEq R (PySem.W.view R.prog [26]) hk ob 20000 names w) ?_ ?_ w
  · intro w os
    kernel_rfl
  · intro w os
    kernel_rfl
theorem ok_r5 : Sr.FdOk gam r5 := ⟨⟨rfl, rfl, rfl, by decide +kernel, rfl, by decide +kernel, by decide +kernel⟩, by kernel_rfl, rfl, rfl, by decide, fun _ _ _ _ _ _ us hl => match us, hl with | [_], _ => rfl⟩
theorem ok_r6 : Sr.FdOk gam r6 := ⟨⟨rfl, rfl, rfl, by decide +kernel, rfl, by decide +kernel, by decide +kernel⟩, by kernel_rfl, rfl, rfl, by decide, fun _ _ _ _ _ _ us hl => match us, hl with | [_, _], _ => rfl⟩
theorem ok_r7 : Sr.FdOk gam r7 := ⟨⟨rfl, rfl, rfl, by decide +kernel, rfl, by decide +kernel, by decide +kernel⟩, by kernel_rfl, rfl, rfl, by decide, fun _ _ _ _ _ _ us hl => match us, hl with | [_], _ => rfl⟩
theorem ok_r8 : Sr.FdOk gam r8 := ⟨⟨rfl, rfl, rfl, by decide +kernel, rfl, by decide +kernel, by decide +kernel⟩, by kernel_rfl, rfl, rfl, by decide, fun _ _ _ _ _ _ us hl => match us, hl with | [_, _], _ => rfl⟩
theorem ok_r9 : Sr.FdOk gam r9 := ⟨⟨rfl, rfl, rfl, by decide +kernel, rfl, by decide +kernel, by decide +kernel⟩, by kernel_rfl, rfl, rfl, by decide, fun _ _ _ _ _ _ us hl => match us, hl with | [_], _ => rfl⟩
theorem ok_r11 : Sr.FdOk gam r11 := ⟨⟨rfl, rfl, rfl, by decide +kernel, rfl, by decide +kernel, by decide +kernel⟩, by kernel_rfl, rfl, rfl, by decide, fun _ _ _ _ _ _ us hl => match us, hl with | [_, _], _ => rfl⟩
theorem ok_r12 : Sr.FdOk gam r12 := ⟨⟨rfl, rfl, rfl, by decide +kernel, rfl, by decide +kernel, by decide +kernel⟩, by kernel_rfl, rfl, rfl, by decide, fun _ _ _ _ _ _ us hl => match us, hl with | [_, _, _], _ => rfl⟩
theorem ok_r13 : Sr.FdOk gam r13 := ⟨⟨rfl, rfl, rfl, by decide +kernel, rfl, by decide +kernel, by decide +kernel⟩, by kernel_rfl, rfl, rfl, by decide, fun _ _ _ _ _ _ us hl => match us, hl with | [_, _, _], _ => rfl⟩
theorem ok_r14 : Sr.FdOk gam r14 := ⟨⟨rfl, rfl, rfl, by decide +kernel, rfl, by decide +kernel, by decide +kernel⟩, by kernel_rfl, rfl, rfl, by decide, fun _ _ _ _ _ _ us hl => match us, hl with | [_, _], _ => rfl⟩
theorem ok_r15 : Sr.FdOk gam r15 := ⟨⟨rfl, rfl, rfl, by decide +kernel, rfl, by decide +kernel, by decide +kernel⟩, by kernel_rfl, rfl, rfl, by decide, fun _ _ _ _ _ _ us hl => match us, hl with | [_], _ => rfl⟩
theorem ok_r16 : Sr.FdOk gam r16 := ⟨⟨rfl, rfl, rfl, by decide +kernel, rfl, by decide +kernel, by decide +kernel⟩, by kernel_rfl, rfl, rfl, by decide, fun _ _ _ _ _ _ us hl => match us, hl with | [_, _], _ => rfl⟩
theorem ok_r17 : Sr.FdOk gam r17 := ⟨⟨rfl, rfl, rfl, by decide +kernel, rfl, by decide +kernel, by decide +kernel⟩, by kernel_rfl, rfl, rfl, by decide, fun _ _ _ _ _ _ us hl => match us, hl with | [_, _], _ => rfl⟩
theorem ok_r18 : Sr.FdOk gam r18 := ⟨⟨rfl, rfl, rfl, by decide +kernel, rfl, by decide +kernel, by decide +kernel⟩, by kernel_rfl, rfl, rfl, by decide, fun _ _ _ _ _ _ us hl => match us, hl with | [_, _], _ => rfl⟩
theorem ok_r19 : Sr.FdOk gam r19 := ⟨⟨rfl, rfl, rfl, by decide +kernel, rfl, by decide +kernel, by decide +kernel⟩, by kernel_rfl, rfl, rfl, by decide, fun _ _ _ _ _ _ us hl => match us, hl with | [_, _], _ => rfl⟩
theorem ok_r20 : Sr.FdOk gam r20 := ⟨⟨rfl, rfl, rfl, by decide +kernel, rfl, by decide +kernel, by decide +kernel⟩, by kernel_rfl, rfl, rfl, by decide, fun _ _ _ _ _ _ us hl => match us, hl with | [_], _ => rfl⟩
theorem ok_r21 : Sr.FdOk gam r21 := ⟨⟨rfl, rfl, rfl, by decide +kernel, rfl, by decide +kernel, by decide +kernel⟩, by kernel_rfl, rfl, rfl, by decide, fun _ _ _ _ _ _ us hl => match us, hl with | [_], _ => rfl⟩
theorem ok_r22 : Sr.FdOk gam r22 := ⟨⟨rfl, rfl, rfl, by decide +kernel, rfl, by decide +kernel, by decide +kernel⟩, by kernel_rfl, rfl, rfl, by decide, fun _ _ _ _ _ _ us hl => match us, hl with | [_, _], _ => rfl⟩
theorem ok_r23 : Sr.FdOk gam r23 := ⟨⟨rfl, rfl, rfl, by decide +kernel, rfl, by decide +kernel, by decide +kernel⟩, by kernel_rfl, rfl, rfl, by decide, fun _ _ _ _ _ _ us hl => match us, hl with | [_, _], _ => rfl⟩
theorem ok_r24 : Sr.FdOk gam r24 := ⟨⟨rfl, rfl, rfl, by decide +kernel, rfl, by decide +kernel, by decide +kernel⟩, by kernel_rfl, rfl, rfl, by decide, fun _ _ _ _ _ _ us hl => match us, hl with | [], _ => rfl⟩
theorem ok_r25 : Sr.FdOk gam r25 := ⟨⟨rfl, rfl, rfl, by decide +kernel, rfl, by decide +kernel, by decide +kernel⟩, by kernel_rfl, rfl, rfl, by decide, fun _ _ _ _ _ _ us hl => match us, hl with | [_, _, _], _ => rfl⟩
theorem ok_r26 : Sr.FdOk gam r26 := ⟨⟨rfl, rfl, rfl, by decide +kernel, rfl, by decide +kernel, by decide +kernel⟩, by kernel_rfl, rfl, rfl, by decide, fun _ _ _ _ _ _ us hl => match us, hl with | [_], _ => rfl⟩
theorem ok_all : ∀ r ∈ tbl, Sr.FdOk gam r := List.forall_mem_cons.mpr ⟨ok_r5, List.forall_mem_cons.mpr ⟨ok_r6, List.forall_mem_cons.mpr ⟨ok_r7, List.forall_mem_cons.mpr ⟨ok_r8, List.forall_mem_cons.mpr ⟨ok_r9, List.forall_mem_cons.mpr ⟨ok_r11, List.forall_mem_cons.mpr ⟨ok_r12, List.forall_mem_cons.mpr ⟨ok_r13, List.forall_mem_cons.mpr ⟨ok_r14, List.forall_mem_cons.mpr ⟨ok_r15, List.forall_mem_cons.mpr ⟨ok_r16, List.forall_mem_cons.mpr ⟨ok_r17, List.forall_mem_cons.mpr ⟨ok_r18, List.forall_mem_cons.mpr ⟨ok_r19, List.forall_mem_cons.mpr ⟨ok_r20, List.forall_mem_cons.mpr ⟨ok_r21, List.forall_mem_cons.mpr ⟨ok_r22, List.forall_mem_cons.mpr ⟨ok_r23, List.forall_mem_cons.mpr ⟨ok_r24, List.forall_mem_cons.mpr ⟨ok_r25, List.forall_mem_cons.mpr ⟨ok_r26, fun _ hr => nomatch hr⟩⟩⟩⟩⟩⟩⟩⟩⟩⟩⟩⟩⟩⟩⟩⟩⟩⟩⟩⟩⟩
theorem nd0 : ∀ r ∈ tbl, r.d.dfl = [] ∧ r.d.kwd = [] := List.forall_mem_cons.mpr ⟨⟨rfl, rfl⟩, List.forall_mem_cons.mpr ⟨⟨rfl, rfl⟩, List.forall_mem_cons.mpr ⟨⟨rfl, rfl⟩, List.forall_mem_cons.mpr ⟨⟨rfl, rfl⟩, List.forall_mem_cons.mpr ⟨⟨rfl, rfl⟩, List.forall_mem_cons.mpr ⟨⟨rfl, rfl⟩, List.forall_mem_cons.mpr ⟨⟨rfl, rfl⟩, List.forall_mem_cons.mpr ⟨⟨rfl, rfl⟩, List.forall_mem_cons.mpr ⟨⟨rfl, rfl⟩, List.forall_mem_cons.mpr ⟨⟨rfl, rfl⟩, List.forall_mem_cons.mpr ⟨⟨rfl, rfl⟩, List.forall_mem_cons.mpr ⟨⟨rfl, rfl⟩, List.forall_mem_cons.mpr ⟨⟨rfl, rfl⟩, List.forall_mem_cons.mpr ⟨⟨rfl, rfl⟩, List.forall_mem_cons.mpr ⟨⟨rfl, rfl⟩, List.forall_mem_cons.mpr ⟨⟨rfl, rfl⟩, List.forall_mem_cons.mpr ⟨⟨rfl, rfl⟩, List.forall_mem_cons.mpr ⟨⟨rfl, rfl⟩, List.forall_mem_cons.mpr ⟨⟨rfl, rfl⟩, List.forall_mem_cons.mpr ⟨⟨rfl, rfl⟩, List.forall_mem_cons.mpr ⟨⟨rfl, rfl⟩, fun _ hr => nomatch hr⟩⟩⟩⟩⟩⟩⟩⟩⟩⟩⟩⟩⟩⟩⟩⟩⟩⟩⟩⟩⟩
theorem law_mem : r26 ∈ tbl := List.mem_of_getElem? (i := 20) rfl
end Hd
open PySem PySem.W PySem.Calls PyProof.Rows
theorem PySem.Challenge.cw_stairrooms_k13_is_house_holds : PySem.Challenge.rw_stairrooms_k13_is_house.Holds := by
  w_on; o_law
  refine HandSHeadRun.head_any (r := OpenLaw.row PySem.Challenge.rw_stairrooms_k13_is_house) (q := view (OpenLaw.row PySem.Challenge.rw_stairrooms_k13_is_house).prog [26]) (H := Hd.hk) (ob := Hd.ob) (M := 20000) (loose := Hd.names) (d := HandSHeadRun.topDef (OpenLaw.row PySem.Challenge.rw_stairrooms_k13_is_house).prog 26) (kwd := []) Hd.ob_eq
    (by kernel_rfl) (fun s => by kernel_rfl) Hd.run (by kernel_rfl) (by kernel_rfl) (by kernel_rfl) (by rfl) (by first | assumption | decide +kernel) (by decide +kernel) ⟨rfl, rfl, rfl, rfl, rfl, by decide +kernel⟩ ?hw ?hc
  case hw => w_witness2
  case hc =>
    refine L2.walk_ofE (l := PySem.Challenge.rw_stairrooms_k13_is_house) (n := 63) (k := 5) (x := "_law_script") (CX := L2.CX0) rfl (by decide) (by kernel_rfl) ⟨rfl, by decide, by decide⟩ ?F (fun _ _ _ _ z => z)
    intro w mg fa h Y G hmg0
    obtain ⟨K, KX, c⟩ := Y
    have hmg : mg ("law" : PySem.Str) = some (.ref fa) := by
      have e : (HandSHeadRun.topDef (OpenLaw.row PySem.Challenge.rw_stairrooms_k13_is_house).prog 26).name = ("law" : PySem.Str) := by kernel_rfl
      rw [← e]
      exact hmg0
    exact Sr.law_F (L := fun _ _ => false) KX G c Hd.ok_all (by kernel_rfl) (by decide +kernel) Hd.nd0 Hd.law_mem (by kernel_rfl) rfl hmg (fun a ns h _ e => Sr.law13 rfl rfl rfl rfl rfl rfl rfl rfl rfl rfl rfl rfl rfl rfl rfl rfl rfl rfl rfl rfl rfl a ns h e)

