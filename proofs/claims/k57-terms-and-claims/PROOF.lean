import PyProof.Rows.All
import Wide.All
import OpenK.AllK
import Wide.FinOn
import HandS.ForMost
import PyProof.StrBlock2
import KE.DataEq
import KE.DataCmp
import KE.KEqDict
import KE.SortData
import HandS.Flow
import HandS.Wide
import HandS.Deep
import HandS.Style
import HandS.TupAny
import HandS.TupMul
import HandS.Conv
import HandS.ListItems
import HandS.SetKeys
import HandS.IsInst
import KE.KDictPairs
import KE.KEqNest
import PyProof.Rows.RowBridgeK
import HandS.Small
import HandS.More
import HandS.Keys
import HandS.SortInts
import HandS.TupLen
import HandS.Rev
import HandS.Defaults
import KE.KRevIter
import PyProof.CollectIter
import HandS.RevTup
import KE.KDictZip
import KE.KItemsList
import HandS.Zip
import KE.GoesEnum
import KE.GoesZip
import HandS.SortKw
import KE.KMinKey
import KE.KCallOwn
import OpenK.KOps
import HandS.FStr
import HandS.MakeKw
import HandS.TryOnly
import HandS.Comp
import HandS.Head0
import HandS.Head1
import HandS.Head2
import HandS.HeadEnd
import HandS.HeadHook1
import HandS.HeadHook2
import HandS.HeadHook3
import HandS.HeadHook4
import HandS.Codes
import KE.KxText
import PySem.Challenge.RW_leanround_k57_terms_and_claims_as_texts
set_option Elab.async false
set_option linter.all false
set_option maxRecDepth 100000
/-! The middle layer, part 1: values as trees, a store of lists, dicts and instances, a small syntax, what it asks (weakest wishes). -/
namespace Lr
open PySem L2

/-! ### values and the store -/
inductive D where
  | non | bl (b : Bool) | int (i : Int) | str (x : Str) | tup (ds : List D) | kt (ds : List D) | key (ds : List D) | ref (a : Nat) | ty (n : String) | cl (c : String)
mutual
def D.beq : D → D → Bool
  | .non, .non => true
  | .bl a, .bl b => a == b
  | .int a, .int b => a == b
  | .str a, .str b => decide (a = b)
  | .tup a, .tup b => D.beqs a b
  | .kt a, .kt b => D.beqs a b
  | .key a, .key b => D.beqs a b
  | .ref a, .ref b => a == b
  | .ty a, .ty b => a == b
  | .cl a, .cl b => a == b
  | _, _ => false
def D.beqs : List D → List D → Bool
  | [], [] => true
  | x :: xs, y :: ys => D.beq x y && D.beqs xs ys
  | _, _ => false
end
mutual
theorem D.beq_iff : ∀ a b : D, D.beq a b = true ↔ a = b
  | .non, b => by cases b <;> simp [D.beq]
  | .bl x, b => by cases b <;> simp [D.beq]
  | .int x, b => by cases b <;> simp [D.beq]
  | .str x, b => by cases b <;> simp [D.beq]
  | .tup x, b => by
    cases b with
    | tup y => simp only [D.beq, D.tup.injEq]; exact D.beqs_iff x y
    | _ => simp [D.beq]
  | .kt x, b => by
    cases b with
    | kt y => simp only [D.beq, D.kt.injEq]; exact D.beqs_iff x y
    | _ => simp [D.beq]
  | .key x, b => by
    cases b with
    | key y => simp only [D.beq, D.key.injEq]; exact D.beqs_iff x y
    | _ => simp [D.beq]
  | .ref x, b => by cases b <;> simp [D.beq]
  | .ty x, b => by cases b <;> simp [D.beq]
  | .cl x, b => by cases b <;> simp [D.beq]
theorem D.beqs_iff : ∀ a b : List D, D.beqs a b = true ↔ a = b
  | [], b => by cases b <;> simp [D.beqs]
  | x :: xs, b => by
    cases b with
    | nil => simp [D.beqs]
    | cons y ys => simp only [D.beqs, Bool.and_eq_true, List.cons.injEq]; rw [D.beq_iff x y, D.beqs_iff xs ys]
end
instance : DecidableEq D := fun a b => decidable_of_iff _ (D.beq_iff a b)
instance : Inhabited D := ⟨.non⟩

inductive MO where
  | lst (ds : List D) | rol (ds : List D) | dct (t : Bool) (kvs : List (D × D)) | ins (c : String) (fs : List (String × D)) | bx
abbrev Sto := Nat → Option MO
def Sto.put (S : Sto) (a : Nat) (o : MO) : Sto := fun b => if b = a then some o else S b
theorem Sto.put_same {S : Sto} {a : Nat} {o : MO} : S.put a o a = some o := if_pos rfl
theorem Sto.put_ne {S : Sto} {a b : Nat} {o : MO} (h : b ≠ a) : S.put a o b = S b := if_neg h
theorem Sto.put_put {S : Sto} {a : Nat} {o u : MO} : (S.put a o).put a u = S.put a u := by
  funext b; unfold Sto.put; split <;> rfl
/-- a smaller store -/
def Sub (S S' : Sto) : Prop := ∀ a o, S a = some o → S' a = some o
theorem Sub.refl (S : Sto) : Sub S S := fun _ _ h => h
theorem Sub.trans {S S' S'' : Sto} (h : Sub S S') (h' : Sub S' S'') : Sub S S'' := fun a o e => h' a o (h a o e)
theorem Sub.put {S : Sto} {p : Nat} {o : MO} (h : S p = none) : Sub S (S.put p o) := fun a u e => by
  rw [Sto.put_ne]
  · exact e
  · rintro rfl; rw [h] at e; cases e
theorem Sub.put2 {S S' : Sto} {p : Nat} {o : MO} (h : Sub S S') : Sub (S.put p o) (S'.put p o) := fun a u e => by
  unfold Sto.put at *
  by_cases q : a = p
  · rw [if_pos q] at e ⊢; exact e
  · rw [if_neg q] at e ⊢; exact h a u e
/-- a list that may be read -/
def isL (S : Sto) (a : Nat) (ds : List D) : Prop := S a = some (.lst ds) ∨ S a = some (.rol ds)
theorem isL.inj {S : Sto} {a : Nat} {ds es : List D} (h : isL S a ds) (h' : isL S a es) : ds = es := by
  rcases h with h | h <;> rcases h' with h' | h' <;> rw [h] at h' <;> cases h' <;> rfl

abbrev Env := List (Option D)
/-- an exception: its class, its fields -/
structure Xv where
  cls : String
  fs : List (String × D)
abbrev QE := D → Sto → Prop
abbrev XE := Xv → Sto → Prop

/-! ### syntax -/
inductive Op2 where
  | add | sub | mul | mod | fdiv | pow
inductive Cmp where
  | eq | ne | lt | le | gt | ge | is | isn | mem | nmem
/-- built-in functions -/
inductive Bf where
  | len | range1 | range2 | max2 | min2 | all | any | int_ | str_ | tuple | list | listZip | listRange1 | listRange2 | listEnum | listRev | listItems | dictPairs | sorted | isinst | sum | max1 | maxD | min1
/-- methods of built-in types -/
inductive Bm where
  | append | extend | pop0 | pop1 | join | get1 | get2 | setdefault | index | clear | items | split | partition | replace | dclr
mutual
inductive E where
  | var (i : Nat) | glb (x : String) | int (i : Int) | bl (b : Bool) | str (x : String) | non
  | bin (o : Op2) (a b : E) | neg (a : E) | not (a : E)
  | cmp (o : Cmp) (a b : E) | chn (o1 o2 : Cmp) (a b c : E)
  | bop (and : Bool) (es : Es) | ite (c : Tt) (a b : E)
  | tup (es : Es) | key (es : Es) | lst (es : Es) | dnew (t : Bool) | dit (a b : E)
  | idx (a b : E) | sli (a : E) (lo hi : Oe) | slr (a : E)
  | cal (f : String) (es : Es) | met (c m f : String) (o : E) (es : Es) | mak (c f : String) (es : Es)
  | blt (f : Bf) (es : Es) | bm (m : Bm) (o : E) (es : Es)
  | fld (o : E) (f : String)
  | lc (elt : E) (tg : Tg) (it : I) (cs : Tts) (own : List Nat)
  | lr1 (a : E) | lr2 (a b : E) | lit (a : E) | lrv (a : E) | lzp (a b : E) | mxd (a b : E)
  | tr1 (a : E) | tr2 (a b : E) | dls (es : Es) | cald (f : String) (es : Es)
  | ceq (c f : String) (a b : E) | clen (c f : String) (a : E) | cstr (c f : String) (a : E) | fmt (a : E) | fst (es : Es)
  | cak (f : String) (es : Es) (z : String) (e : E) | mek (c m f : String) (o : E) (z : String) (e : E)
inductive Es where
  | nil | cons (e : E) (r : Es)
/-- tests -/
inductive Tt where
  | not (t : Tt) | bop (and : Bool) (ts : Tts) | ite (c a b : Tt) | cmp (o : Cmp) (a b : E) | chn (o1 o2 : Cmp) (a b c : E) | tru (e : E) | ceq (c f : String) (a b : E)
inductive Tts where
  | nil | cons (t : Tt) (r : Tts)
inductive Oe where
  | no | so (e : E)
inductive Tg where
  | nm (i : Nat) | tp (ts : Tgs) | ix (o i : E) | at (o : E) (f : String)
inductive Tgs where
  | nil | cons (t : Tg) (r : Tgs)
/-- what is walked -/
inductive I where
  | seq (e : E) | rng (es : Es) | enu (e : E) | zip (a b : E) | rev (e : E) | its (e : E)
end
mutual
inductive St1 where
  | rse | set (t : Tg) (e : E) | aug (i : Nat) (o : Op2) (e : E) | fla (o : E) (f : String) (p : Op2) (e : E)
  | exp (e : E) | ret (e : E) | retN | pas | brk | cnt
  | iff (c : Tt) (a b : Sts) | whl (c : Tt) (b : Sts) | for_ (t : Tg) (i : I) (b : Sts)
inductive Sts where
  | nil | cons (s : St1) (r : Sts)
end

/-! ### operations on values -/
/-! a value as data (lists through the store, n of them within one another) -/
mutual
def D.pyW (f : Nat → Option PyData) : D → Option PyData
  | .non => some .none
  | .bl b => some (.bool b)
  | .int i => some (.int i)
  | .str x => some (.str x)
  | .tup ds => (D.pyWs f ds).map .tuple
  | .kt ds => (D.pyWs f ds).map .tuple
  | .key ds => (D.pyWs f ds).map .tuple
  | .ref a => f a
  | _ => none
def D.pyWs (f : Nat → Option PyData) : List D → Option (List PyData)
  | [] => some []
  | d :: ds => match D.pyW f d, D.pyWs f ds with
    | some x, some xs => some (x :: xs)
    | _, _ => none
end
def pyA (S : Sto) : Nat → Nat → Option PyData
  | 0, _ => none
  | n + 1, a => match S a with
    | some (.lst ds) => (D.pyWs (pyA S n) ds).map .list
    | some (.rol ds) => (D.pyWs (pyA S n) ds).map .list
    | _ => none
/-- .. to sixteen lists within one another -/
def pyv (S : Sto) (d : D) : Option PyData := d.pyW (pyA S 16)

/-- a value as data, where it is -/
def encS (S : Sto) (d : D) : PyData := (pyv S d).getD .none
def lookD : List (D × D) → D → Option D
  | [], _ => none
  | (k, d) :: r, x => if k = x then some d else lookD r x
/-- whether each entry stands in kb, too -/
def dctEq (S : Sto) (kb : List (D × D)) : List (D × D) → Option Bool
  | [] => some true
  | (k, v) :: r => match lookD kb k with
    | none => some false
    | some u => match pyv S v, pyv S u, dctEq S kb r with
      | some d, some e, some b => if d.depth ≤ 180 then some (PyData.eqv d e && b) else none
      | _, _, _ => none
/-- item by item, as long -/
def teqs (f : D → D → Option Bool) : List D → List D → Option Bool
  | [], [] => some true
  | x :: xs, y :: ys => match f x y, teqs f xs ys with
    | some a, some b => some (a && b)
    | _, _ => none
  | _, _ => none
/-- == of data, dicts of data, tuples and lists of such -/
def teq (S : Sto) : Nat → D → D → Option Bool
  | 0, _, _ => none
  | n + 1, x, y => match pyv S x, pyv S y with
    | some d, some e => if d.depth ≤ 180 then some (PyData.eqv d e) else none
    | _, _ => match x, y with
      | .ref a, .ref b => if a = b then none else (match S a, S b with
        | some (.dct false ka), some (.dct false kb) => (dctEq S kb ka).map fun r => ka.length == kb.length && r
        | some (.lst xs), some (.lst ys) => teqs (teq S n) xs ys
        | _, _ => none)
      | .tup xs, .tup ys => teqs (teq S n) xs ys
      | _, _ => none
def eqM : D → D → Sto → (Bool → Prop) → Prop
  | .int i, .int j, _, Q => Q (decide (i = j))
  | .str x, .str y, _, Q => Q (decide (x = y))
  | .bl a, .bl b, _, Q => Q (decide (a = b))
  | .non, .non, _, Q => Q true
  | .non, .int _, _, Q => Q false
  | .non, .str _, _, Q => Q false
  | .non, .bl _, _, Q => Q false
  | .int _, .non, _, Q => Q false
  | .str _, .non, _, Q => Q false
  | .bl _, .non, _, Q => Q false
  | .int _, .str _, _, Q => Q false
  | .str _, .int _, _, Q => Q false
  | .bl _, .str _, _, Q => Q false
  | .str _, .bl _, _, Q => Q false
  | x, y, S, Q => match pyv S x, pyv S y with
    | some d, some e => (d.depth ≤ 64 ∨ e.depth ≤ 64) ∧ Q (PyData.eqv d e)
    | _, _ => eqDM x y S Q
where
  /-- of dicts -/
  eqDM : D → D → Sto → (Bool → Prop) → Prop
    | .ref a, .ref b, S, Q => match S a, S b with
      | some (.dct false ka), some (.dct false kb) => (match dctEq S kb ka with
        | some r => Q (ka.length == kb.length && r)
        | none => False)
      | some (.dct true ka), some (.dct true kb) => (match dctEq S kb ka with
        | some r => Q (ka.length == kb.length && r)
        | none => False)
      | _, _ => False
    | .tup xs, .tup ys, S, Q => (match teqs (teq S 8) xs ys with
      | some r => Q r
      | none => False)
    | _, _, _, _ => False
/-- x < y of data -/
def ltDM (x y : D) (S : Sto) (Q : Bool → Prop) : Prop := match pyv S x, pyv S y with
  | some d, some e => (PySem.W.alike d e = true ∧ d ≠ .none ∧ (d.depth ≤ 64 ∨ e.depth ≤ 64)) ∧ Q (PySem.W.dataLt d e)
  | _, _ => False
def flatD : D → Bool
  | .non => true
  | .bl _ => true
  | .int _ => true
  | .str _ => true
  | _ => false
/-- == of flat values -/
def eqF : D → D → Bool
  | .non, .non => true
  | .bl a, .bl b => a == b
  | .bl a, .int b => (if a then 1 else 0) == b
  | .int a, .bl b => a == (if b then 1 else 0)
  | .int a, .int b => a == b
  | .str a, .str b => a == b
  | _, _ => false
def putD (kvs : List (D × D)) (x v : D) : List (D × D) :=
  if (kvs.any fun kv => decide (kv.1 = x)) = true then kvs.map fun kv => if kv.1 = x then (kv.1, v) else kv else kvs ++ [(x, v)]
def isKey0 : D → Bool
  | .int _ => true
  | .str _ => true
  | _ => false
def isKey : Bool → D → Bool
  | false, .int _ => true
  | false, .str _ => true
  | true, .key ds => ds.all isKey0
  | _, _ => false
/-- x in y -/
def memM : D → D → Sto → (Bool → Prop) → Prop
  | .str x, .str z, _, Q => match x.cps.toList with
    | [c] => Q (decide (c ∈ z.cps.toList))
    | _ => False
  | x, .tup ds, S, Q => memF x ds S Q
  | x, .kt ds, S, Q => memF x ds S Q
  | x, .key ds, S, Q => memF x ds S Q
  | x, .ref a, S, Q => match S a with
    | some (.lst ds) => memF x ds S Q
    | some (.rol ds) => memF x ds S Q
    | some (.dct t kvs) => isKey t x = true ∧ Q (lookD kvs x).isSome
    | _ => False
  | _, _, _, _ => False
where
  memF (x : D) (ds : List D) (S : Sto) (Q : Bool → Prop) : Prop :=
    match flatD x && ds.all flatD with
    | true => Q (ds.any fun y => eqF y x)
    | false => match pyv S x, D.pyWs (pyA S 16) ds with
      | some d, some es => (PyData.depthAll es ≤ 63 ∨ d.depth ≤ 63) ∧ Q (es.any fun z => PyData.eqv z d)
      | _, _ => False
def isM : D → D → (Bool → Prop) → Prop
  | x, .non, Q => Q (decide (x = .non))
  | .bl a, .bl b, Q => Q (decide (a = b))
  | _, _, _ => False
def cmpM : Cmp → D → D → Sto → (Bool → Prop) → Prop
  | .eq, x, y, S, Q => eqM x y S Q
  | .ne, x, y, S, Q => eqM x y S fun b => Q (!b)
  | .lt, .int i, .int j, _, Q => Q (decide (i < j))
  | .le, .int i, .int j, _, Q => Q (decide (i ≤ j))
  | .gt, .int i, .int j, _, Q => Q (decide (j < i))
  | .ge, .int i, .int j, _, Q => Q (decide (j ≤ i))
  | .is, x, y, _, Q => isM x y Q
  | .isn, x, y, _, Q => isM x y fun b => Q (!b)
  | .lt, x, y, S, Q => ltDM x y S Q
  | .gt, x, y, S, Q => ltDM y x S Q
  | .mem, x, y, S, Q => memM x y S Q
  | .nmem, x, y, S, Q => memM x y S fun b => Q (!b)
  | _, _, _, _, _ => False

/-- numbers whose product the model reckons -/
def mulOk (i j : Int) : Prop := CMul i j ∨ i.natAbs.log2 + j.natAbs.log2 < 1000000
/-- .. and quotient -/
def divOk (j : Int) : Prop := 0 < j ∧ j.natAbs.log2 < 9000
/-- keys that are pairs of ints -/
def keyPs : List (D × D) → Option (List (Int × Int))
  | [] => some []
  | (k, _) :: r => match k with
    | .key [.int a, .int b] => (keyPs r).map ((a, b) :: ·)
    | _ => none
def lexI (p q : Int × Int) : Prop := p.1 < q.1 ∨ (p.1 = q.1 ∧ p.2 ≤ q.2)
def pairK (p : Int × Int) : D := .key [.int p.1, .int p.2]
def repL {α : Type} (n : Int) (xs : List α) : List α := (List.replicate n.toNat xs).flatten
def binM : Op2 → D → D → Sto → QE → Prop
  | .add, .int i, .int j, S, Q => Q (.int (i + j)) S
  | .sub, .int i, .int j, S, Q => Q (.int (i - j)) S
  | .mul, .int i, .int j, S, Q => mulOk i j ∧ Q (.int (i * j)) S
  | .mod, .int i, .int j, S, Q => 0 < j ∧ Q (.int (i % j)) S
  | .fdiv, .int i, .int j, S, Q => divOk j ∧ Q (.int (i / j)) S
  | .pow, .int i, .int j, S, Q => CPow i j ∧ Q (.int (i ^ j.toNat)) S
  | .add, .str x, .str y, S, Q => x.length + y.length ≤ sizeLine ∧ Q (.str (x ++ y)) S
  | .add, .tup xs, .tup ys, S, Q => xs.length + ys.length ≤ sizeLine ∧ Q (.tup (xs ++ ys)) S
  | .add, .ref a, .ref b, S, Q => match S a, S b with
    | some (.lst xs), some (.lst ys) => xs.length + ys.length ≤ sizeLine ∧ ∀ p, S p = none → Q (.ref p) (S.put p (.lst (xs ++ ys)))
    | _, _ => False
  | .mul, .tup xs, .int k, S, Q => xs ≠ [] ∧ 0 ≤ k ∧ k ≤ 1000 ∧ xs.length ≤ 1000 ∧ Q (.tup (repL k xs)) S
  | .mul, .str x, .int k, S, Q => 0 ≤ k ∧ k ≤ 1000 ∧ x.length ≤ 1000 ∧ Q (.str (Txt.mul x k)) S
  | .mul, .ref a, .int k, S, Q => match S a with
    | some (.lst xs) => 0 ≤ k ∧ k ≤ 1000 ∧ xs.length ≤ 1000 ∧ ∀ p, S p = none → Q (.ref p) (S.put p (.lst (repL k xs)))
    | _ => False
  | _, _, _, _, _ => False

def truM : D → Sto → (Bool → Prop) → Prop
  | .non, _, Q => Q false
  | .bl b, _, Q => Q b
  | .int i, _, Q => Q (i != 0)
  | .str x, _, Q => x.length ≤ sizeLine ∧ Q ((x.length : Int) != 0)
  | .tup ds, _, Q => Q (!ds.isEmpty)
  | .ref a, S, Q => match S a with
    | some (.lst ds) => Q (!ds.isEmpty)
    | some (.rol ds) => Q (!ds.isEmpty)
    | _ => False
  | _, _, _ => False

def ixM : D → D → Sto → QE → Prop
  | .tup ds, .int i, S, Q => match atI ds i with | some d => Q d S | none => False
  | .kt ds, .int i, S, Q => match atI ds i with | some d => Q d S | none => False
  | .key ds, .int i, S, Q => match atI ds i with | some d => Q d S | none => False
  | .str z, .int i, S, Q => z.length ≤ sizeLine ∧ match atI z.cps.toList i with | some c => Q (.str ⟨#[c]⟩) S | none => False
  | .ref a, k, S, Q => match S a with
    | some (.lst ds) => (match k with
      | .int i => (match atI ds i with | some d => Q d S | none => False)
      | _ => False)
    | some (.rol ds) => (match k with
      | .int i => (match atI ds i with | some d => Q d S | none => False)
      | _ => False)
    | some (.dct t kvs) => isKey t k = true ∧ (match lookD kvs k with | some d => Q d S | none => False)
    | _ => False
  | _, _, _, _ => False
def cutL {α : Type} (xs : List α) (lo hi : Option Int) : List α := (xs.drop (HT.sIx xs.length 0 lo)).take (HT.sIx xs.length xs.length hi - HT.sIx xs.length 0 lo)
def slM : D → Option Int → Option Int → Sto → QE → Prop
  | .tup ds, lo, hi, S, Q => Q (.tup (cutL ds lo hi)) S
  | .str z, lo, hi, S, Q => z.length ≤ sizeLine ∧ Q (.str (cutS z lo hi)) S
  | .ref a, lo, hi, S, Q => match S a with
    | some (.lst ds) => ∀ p, S p = none → Q (.ref p) (S.put p (.lst (cutL ds lo hi)))
    | some (.rol ds) => ∀ p, S p = none → Q (.ref p) (S.put p (.lst (cutL ds lo hi)))
    | _ => False
  | _, _, _, _, _ => False
/-- o[k] = v -/
def putM (o k v : D) (S : Sto) (Q : Sto → Prop) : Prop :=
  match o with
  | .ref a => (match S a with
    | some (.lst ds) => (match k with
      | .int i => (match ixN ds.length i with | some j => Q (S.put a (.lst (ds.set j v))) | none => False)
      | _ => False)
    | some (.dct t kvs) => isKey t k = true ∧ kvs.length < sizeLine ∧ Q (S.put a (.dct t (putD kvs k v)))
    | _ => False)
  | _ => False
def fldM (fl : String → String → Bool) (o : D) (f : String) (S : Sto) (Q : QE) : Prop :=
  match o with
  | .ref a => (match S a with
    | some (.ins c fs) => fl c f = true ∧ (match fs.lookup f with | some d => Q d S | none => False)
    | _ => False)
  | _ => False
def putFd (f : String) (v : D) : List (String × D) → List (String × D)
  | [] => [(f, v)]
  | (g, x) :: r => if g = f then (g, v) :: r else (g, x) :: putFd f v r
def setFM (fl : String → String → Bool) (o : D) (f : String) (v : D) (S : Sto) (Q : Sto → Prop) : Prop :=
  match o with
  | .ref a => (match S a with
    | some (.ins c fs) => fl c f = true ∧ fs.length < 1000 ∧ Q (S.put a (.ins c (putFd f v fs)))
    | _ => False)
  | _ => False
/-- the items of what is walked -/
def itemsM : D → Sto → (List D → Prop) → Prop
  | .tup ds, _, Q => Q ds
  | .kt ds, _, Q => Q ds
  | .key ds, _, Q => Q ds
  | .str z, _, Q => Q (z.cps.toList.map fun c => .str ⟨#[c]⟩)
  | .ref a, S, Q => match S a with
    | some (.lst ds) => Q ds
    | some (.rol ds) => Q ds
    | _ => False
  | _, _, _ => False

/-! ### a weaker description of the store -/
def AbsO (o o' : MO) : Prop := o = o' ∨ (o = .bx ∧ ∃ i j k : Int, o' = .lst [.int i, .int j, .int k])
def Abs (S S' : Sto) : Prop := ∀ a o, S a = some o → ∃ o', S' a = some o' ∧ AbsO o o'
theorem AbsO.refl (o : MO) : AbsO o o := .inl rfl
theorem Abs.refl (S : Sto) : Abs S S := fun _ o h => ⟨o, h, .inl rfl⟩
theorem Abs.of {S S' : Sto} (h : Sub S S') : Abs S S' := fun a o e => ⟨o, h a o e, .inl rfl⟩
theorem Abs.trans {S S' S'' : Sto} (h : Abs S S') (h' : Abs S' S'') : Abs S S'' := fun a o e => by
  obtain ⟨o', e', r⟩ := h a o e
  obtain ⟨o'', e'', r'⟩ := h' a o' e'
  refine ⟨o'', e'', ?_⟩
  rcases r with rfl | ⟨rfl, i, j, k, rfl⟩
  · exact r'
  · rcases r' with rfl | ⟨z, _⟩
    · exact .inr ⟨rfl, i, j, k, rfl⟩
    · cases z
theorem Abs.put {S : Sto} {p : Nat} {o : MO} (h : S p = none) : Abs S (S.put p o) := .of (Sub.put h)
theorem Abs.put2 {S S' : Sto} {p : Nat} {o o' : MO} (h : Abs S S') (r : AbsO o o') : Abs (S.put p o) (S'.put p o') := fun a u e => by
  unfold Sto.put at *
  by_cases q : a = p
  · rw [if_pos q] at e ⊢; cases e; exact ⟨o', rfl, r⟩
  · rw [if_neg q] at e ⊢; exact h a u e
/-- the boxes opened -/
def Conc (S S' : Sto) : Prop := ∀ a, (S a = some .bx ∧ ∃ i j k : Int, S' a = some (.lst [.int i, .int j, .int k])) ∨ (S a ≠ some .bx ∧ S' a = S a)
theorem Conc.abs {S S' : Sto} (h : Conc S S') : Abs S S' := fun a o e => by
  rcases h a with ⟨h1, i, j, k, h2⟩ | ⟨_, h2⟩
  · rw [h1] at e; cases e
    exact ⟨_, h2, .inr ⟨rfl, i, j, k, rfl⟩⟩
  · exact ⟨o, h2.trans e, .inl rfl⟩

/-! ### loops -/
abbrev QS := Env → Sto → Prop
structure En where
  nx : QS
  rt : QE
  bk : QS
  ct : QS
def loopF (chk : Sto → Prop) (tg : D → Env → Sto → QS → Prop) (b : En → Env → Sto → Prop) (N : En) : List D → Env → Sto → Prop
  | [], σ, S => chk S ∧ N.nx σ S
  | d :: ds, σ, S => chk S ∧ tg d σ S fun σ1 S1 => b { N with
      nx := fun σ2 S2 => ∃ S3, Abs S3 S2 ∧ loopF chk tg b N ds σ2 S3
      ct := fun σ2 S2 => ∃ S3, Abs S3 S2 ∧ loopF chk tg b N ds σ2 S3
      bk := N.nx } σ1 S1
def loopW (c : Env → Sto → (Bool → Sto → Prop) → Prop) (b : En → Env → Sto → Prop) (N : En) : Nat → Env → Sto → Prop
  | 0, _, _ => False
  | n + 1, σ, S => c σ S fun t S1 => (t = true → b { N with
      nx := fun σ2 S2 => ∃ S3, Abs S3 S2 ∧ loopW c b N n σ2 S3
      ct := fun σ2 S2 => ∃ S3, Abs S3 S2 ∧ loopW c b N n σ2 S3
      bk := N.nx } σ S1) ∧ (t = false → N.nx σ S1)
/-- a comprehension's turns; the new list at p -/
def loopC (chk : Sto → Prop) (tg : D → Env → Sto → QS → Prop) (t : Env → Sto → (Bool → Sto → Prop) → Prop) (el : Env → Sto → QE → Prop) (p : Nat) (σ : Env) (Q : Sto → Prop) : List D → Sto → Prop
  | [], S => chk S ∧ Q S
  | d :: ds, S => chk S ∧ tg d σ S fun σ1 S1 => t σ1 S1 fun b S2 =>
      (b = true → el σ1 S2 fun y S3 => match S3 p with
        | some (.lst acc) => acc.length < sizeLine ∧ ∃ S4, Abs S4 (S3.put p (.lst (acc ++ [y]))) ∧ loopC chk tg t el p σ Q ds S4
        | _ => False) ∧
      (b = false → ∃ S4, Abs S4 S2 ∧ loopC chk tg t el p σ Q ds S4)
def wipeD (σ : Env) : List Nat → Env
  | [] => σ
  | v :: vs => (wipeD σ vs).set v none

/-! ### built-in functions and methods -/
def blsOf : List D → Option (List Bool)
  | [] => some []
  | .bl b :: r => (blsOf r).map (b :: ·)
  | _ => none
def intsOf : List D → Option (List Int)
  | [] => some []
  | .int b :: r => (intsOf r).map (b :: ·)
  | _ => none
def strsOf : List D → Option (List Str)
  | [] => some []
  | .str b :: r => (strsOf r).map (b :: ·)
  | _ => none
/-- a list or a tuple -/
def seqOf (d : D) (S : Sto) : Option (List D) :=
  match d with
  | .tup ds => some ds
  | .kt ds => some ds
  | .key ds => some ds
  | .ref a => match S a with
    | some (.lst ds) => some ds
    | some (.rol ds) => some ds
    | _ => none
  | _ => none
/-- the type of a value -/
def tyOf (d : D) (S : Sto) : Option D :=
  match d with
  | .non => some (.ty "NoneType")
  | .bl _ => some (.ty "bool")
  | .int _ => some (.ty "int")
  | .str _ => some (.ty "str")
  | .tup _ => some (.ty "tuple")
  | .kt _ => some (.ty "tuple")
  | .key _ => some (.ty "tuple")
  | .ref a => match S a with
    | some (.lst _) => some (.ty "list")
    | some (.rol _) => some (.ty "list")
    | some (.dct _ _) => some (.ty "dict")
    | some (.ins c _) => some (.cl c)
    | _ => none
  | _ => none
def tyN : List String := ["NoneType", "bool", "int", "str", "tuple", "list", "dict"]
def tyM : List String := ["bool", "int", "str", "tuple", "list", "dict"]
/-- isinstance for one class; fl c "": c is a class of the text -/
def isOne (fl : String → String → Bool) (t c : D) : Option Bool :=
  match t, c with
  | .ty n, .ty m => if (tyN.contains n && tyM.contains m) = true then some (n == m || (n == "bool" && m == "int")) else none
  | .ty n, .cl c => if (tyN.contains n && fl c "") = true then some false else none
  | .cl c, .cl c' => if (fl c "" && fl c' "") = true then some (c == c') else none
  | .cl c, .ty m => if (fl c "" && tyM.contains m) = true then some false else none
  | _, _ => none
def isTyD : D → Bool
  | .ty _ => true
  | .cl _ => true
  | _ => false
def isAny (fl : String → String → Bool) (t : D) : List D → Option Bool
  | [] => some false
  | c :: r => match isOne fl t c with
    | some true => some true
    | some false => isAny fl t r
    | none => none
def newL (ds : List D) (S : Sto) (Q : QE) : Prop := ∀ p, S p = none → Q (.ref p) (S.put p (.lst ds))
def rngL (a b : Int) : List D := (List.range (b - a).toNat).map fun i => .int (a + (i : Nat))
def rngD (a b : Int) : List D := (List.range (a - b).toNat).map fun i => .int (a + (i : Nat) * (-1))
def rngOk (a b : Int) : Prop := -(2 ^ 62) ≤ a ∧ a < 2 ^ 62 ∧ -(2 ^ 62) ≤ b ∧ b < 2 ^ 62 ∧ (b - a).toNat ≤ 2 ^ 24
def enumL : Nat → List D → List D
  | _, [] => []
  | n, d :: ds => .key [.int n, d] :: enumL (n + 1) ds
def zipL : List D → List D → List D
  | x :: xs, y :: ys => .key [x, y] :: zipL xs ys
  | _, _ => []
def pairsD : List D → Option (List (D × D))
  | [] => some []
  | .tup [k, v] :: r => (pairsD r).map ((k, v) :: ·)
  | .key [k, v] :: r => (pairsD r).map ((k, v) :: ·)
  | _ => none
def mergeD : List (D × D) → List (D × D) → List (D × D)
  | acc, [] => acc
  | acc, (k, v) :: r => mergeD (putD acc k v) r
def bfM (fl : String → String → Bool) : Bf → List D → Sto → QE → Prop
  | .len, [.str x], S, Q => x.length ≤ sizeLine ∧ Q (.int x.length) S
  | .len, [.ref a], S, Q => (match S a with
    | some (.dct _ kvs) => Q (.int kvs.length) S
    | some (.lst ds) => Q (.int ds.length) S
    | some (.rol ds) => Q (.int ds.length) S
    | _ => False)
  | .len, [d], S, Q => (match seqOf d S with | some ds => Q (.int ds.length) S | none => False)
  | .max2, [.int i, .int j], S, Q => Q (.int (if j > i then j else i)) S
  | .min2, [.int i, .int j], S, Q => Q (.int (if j < i then j else i)) S
  | .all, [.ref a], S, Q => (match seqOf (.ref a) S with
    | some ds => (match blsOf ds with | some bs => Q (.bl (bs.all id)) S | none => False)
    | none => False)
  | .any, [.ref a], S, Q => (match seqOf (.ref a) S with
    | some ds => (match blsOf ds with | some bs => Q (.bl (bs.any id)) S | none => False)
    | none => False)
  | .sum, [.ref a], S, Q => (match seqOf (.ref a) S with
    | some ds => (match intsOf ds with | some ns => Q (.int ns.sum) S | none => False)
    | none => False)
  | .max1, [.ref a], S, Q => (match seqOf (.ref a) S with
    | some ds => (match intsOf ds with | some ns => 0 < ns.length ∧ ∀ m, m ∈ ns → (∀ y, y ∈ ns → y ≤ m) → Q (.int m) S | none => False)
    | none => False)
  | .min1, [.ref a], S, Q => (match seqOf (.ref a) S with
    | some ds => (match intsOf ds with | some ns => 0 < ns.length ∧ ∀ m, m ∈ ns → (∀ y, y ∈ ns → m ≤ y) → Q (.int m) S | none => False)
    | none => False)
  | .int_, [.int i], S, Q => Q (.int i) S
  | .int_, [.bl b], S, Q => Q (.int (if b then 1 else 0)) S
  | .int_, [.str x], S, Q => (match intText? x with | some n => x.length ≤ 640 ∧ Q (.int n) S | none => False)
  | .str_, [.int i], S, Q => i.natAbs.log2 < 1920 ∧ Q (.str (toString i : String)) S
  | .tuple, [.kt ds], S, Q => Q (.kt ds) S
  | .tuple, [.key ds], S, Q => Q (.key ds) S
  | .tuple, [d], S, Q => (match seqOf d S with | some ds => Q (.tup ds) S | none => False)
  | .list, [d], S, Q => (match seqOf d S with
    | some ds => newL ds S Q
    | none => match d with
      | .ref a => (match S a with
        | some (.dct _ kvs) => newL (kvs.map (·.1)) S Q
        | _ => False)
      | _ => False)
  | .listRange1, [.int n], S, Q => rngOk 0 n ∧ newL (rngL 0 n) S Q
  | .listRange2, [.int a, .int b], S, Q => rngOk a b ∧ newL (rngL a b) S Q
  | .listZip, [x, y], S, Q => (match seqOf x S, seqOf y S with | some xs, some ys => newL (zipL xs ys) S Q | _, _ => False)
  | .listEnum, [x], S, Q => (match seqOf x S with | some xs => newL (enumL 0 xs) S Q | _ => False)
  | .listRev, [x], S, Q => (match seqOf x S with | some xs => newL xs.reverse S Q | _ => False)
  | .listItems, [.ref a], S, Q => (match S a with | some (.dct _ kvs) => newL (kvs.map fun kv => .key [kv.1, kv.2]) S Q | _ => False)
  | .dictPairs, [.tup ds], S, Q => (match pairsD ds with
    | some kvs => (kvs.all fun kv => isKey false kv.1) = true ∧ ∀ p, S p = none → Q (.ref p) (S.put p (.dct false (mergeD [] kvs)))
    | none => False)
  | .dictPairs, [.ref a], S, Q => (match seqOf (.ref a) S with
    | some ds => (match pairsD ds with
      | some kvs => (kvs.all fun kv => isKey false kv.1) = true ∧ ∀ p, S p = none → Q (.ref p) (S.put p (.dct false (mergeD [] kvs)))
      | none => False)
    | none => (match S a with
      | some (.dct false kvs) => ∀ p, S p = none → Q (.ref p) (S.put p (.dct false kvs))
      | _ => False))
  | .sorted, [.ref a], S, Q => (match seqOf (.ref a) S with
    | some ds => (match intsOf ds with
      | some ns => ∀ ns' : List Int, ns'.Perm ns → ns'.Pairwise (· ≤ ·) → newL (ns'.map .int) S Q
      | none => (match D.pyWs (pyA S 16) ds with
        | some es => (PySem.W.AllAlike es ∧ PySem.W.Sortable es ∧ PyData.depthAll es ≤ 64 ∧ ds.length ≤ sizeLine) ∧ ∀ ds' : List D, ds'.Perm ds → ds'.Pairwise (fun x y => PySem.W.dataLt (encS S y) (encS S x) = false) → newL ds' S Q
        | none => False))
    | none => (match S a with
      | some (.dct true kvs) => (match keyPs kvs with
        | some ps => ps.length < 64 ∧ (∀ p ∈ ps, 0 ≤ p.1 ∧ 0 ≤ p.2) ∧ ∀ ps' : List (Int × Int), ps'.Perm ps → ps'.Pairwise lexI → newL (ps'.map pairK) S Q
        | none => False)
      | _ => False))
  | .isinst, [x, .key cs], S, Q => (match tyOf x S with
    | some t => cs ≠ [] ∧ cs.all isTyD = true ∧ (match isAny fl t cs with | some b => Q (.bl b) S | none => False)
    | none => False)
  | .isinst, [x, c], S, Q => (match tyOf x S with
    | some t => (match isOne fl t c with | some b => Q (.bl b) S | none => False)
    | none => False)
  | _, _, _, _ => False
/-- of the type whose method it is -/
def bmT : Bm → String
  | .append => "list" | .extend => "list" | .pop0 => "list" | .pop1 => "list" | .index => "list" | .clear => "list"
  | .join => "str" | .split => "str" | .partition => "str" | .replace => "str"
  | .get1 => "dict" | .get2 => "dict" | .setdefault => "dict" | .items => "dict" | .dclr => "dict"
def bmB (m : Bm) (d : D) (S : Sto) : Bool :=
  match bmT m, d with
  | "str", .str _ => true
  | "list", .ref a => (match S a with
    | some (.lst _) => true
    | some (.rol _) => true
    | _ => false)
  | "dict", .ref a => (match S a with
    | some (.dct _ _) => true
    | _ => false)
  | _, _ => false
def extOf (d : D) (S : Sto) : Option (List D) :=
  match d with
  | .tup ds => some ds
  | .ref a => match S a with
    | some (.lst ds) => some ds
    | _ => none
  | _ => none
/-- where an item like it first stands -/
def ixD (x : D) : List D → Option Nat
  | [] => none
  | d :: ds => if eqF d x = true then some 0 else (ixD x ds).map (· + 1)
def bmM : Bm → D → List D → Sto → QE → Prop
  | .append, .ref a, [d], S, Q => (match S a with
    | some (.lst ds) => ds.length < sizeLine ∧ Q .non (S.put a (.lst (ds ++ [d])))
    | _ => False)
  | .extend, .ref a, [d], S, Q => (match S a with
    | some (.lst ds) => (match extOf d S with
      | some es => ds.length + es.length ≤ sizeLine ∧ Q .non (S.put a (.lst (ds ++ es)))
      | none => False)
    | _ => False)
  | .pop0, .ref a, [], S, Q => (match S a with
    | some (.lst ds) => (match ds.getLast? with
      | some d => Q d (S.put a (.lst ds.dropLast))
      | none => False)
    | _ => False)
  | .pop1, .ref a, [.int i], S, Q => (match S a with
    | some (.lst ds) => (match ixN ds.length i with
      | some j => (match ds[j]? with
        | some d => Q d (S.put a (.lst (ds.eraseIdx j)))
        | none => False)
      | none => False)
    | _ => False)
  | .clear, .ref a, [], S, Q => (match S a with
    | some (.lst _) => Q .non (S.put a (.lst []))
    | _ => False)
  | .dclr, .ref a, [], S, Q => (match S a with
    | some (.dct false _) => Q .non (S.put a (.dct false []))
    | _ => False)
  | .join, .str x, [d], S, Q => (match seqOf d S with
    | some ds => (match strsOf ds with
      | some ys => (ys.map fun y => y.length).sum + ys.length * x.length ≤ 16777216 ∧ Q (.str (Txt.join x ys)) S
      | none => False)
    | none => False)
  | .index, .ref a, [d], S, Q => (match S a with
    | some (.lst ds) => (ds.all flatD && flatD d) = true ∧ (match ixD d ds with | some j => Q (.int (j : Nat)) S | none => False)
    | _ => False)
  | .get1, .ref a, [k], S, Q => (match S a with
    | some (.dct t kvs) => isKey t k = true ∧ Q ((lookD kvs k).getD .non) S
    | _ => False)
  | .get2, .ref a, [k, d], S, Q => (match S a with
    | some (.dct t kvs) => isKey t k = true ∧ Q ((lookD kvs k).getD d) S
    | _ => False)
  | .setdefault, .ref a, [k, d], S, Q => (match S a with
    | some (.dct false kvs) => isKey false k = true ∧ kvs.length < sizeLine ∧ (match lookD kvs k with
      | some v => Q v S
      | none => Q d (S.put a (.dct false (putD kvs k d))))
    | _ => False)
  | .split, .str x, [.str y], S, Q => (y.length == 0) = false ∧ x.length + 2 ≤ sizeLine ∧ newL ((Txt.split x y).map .str) S Q
  | _, _, _, _, _ => False

/-! ### what code asks -/
/-- a def, a method m of the class c, the __init__ of c -/
inductive Wh where
  | pl | mt (c m : String) | it (c : String)
structure Ctx where
  call : Wh → String → List D → Sto → QE → XE → Prop
  has : Wh → String → Prop
  gl : String → Option D
  fl : String → String → Bool
  df : String → List D
  kw : String → Option String
/-- what an own == may be asked of -/
def eqOk (fl : String → String → Bool) (c : String) (v : D) (S : Sto) : Prop := fl c "" = true ∧ match tyOf v S with
  | some (.ty n) => tyN.contains n = true
  | some (.cl c') => c' = c
  | _ => False
/-- an own method m of the class c -/
def ownM (call : Wh → String → List D → Sto → QE → XE → Prop) (c m f : String) (u : D) (vs : List D) (S : Sto) (Q : QE) (x : XE) : Prop := match u with
  | .ref p => (match S p with
    | some (.ins c' _) => c' = c ∧ call (.mt c m) f (u :: vs) S Q x
    | _ => False)
  | _ => False
def fmtM (d : D) (S : Sto) (Q : QE) : Prop := match d with
  | .str y => y.length ≤ sizeLine ∧ Q (.str y) S
  | .int i => i.natAbs.log2 < 1920 ∧ Q (.str (toString i : String)) S
  | _ => False
def slot (σ : Env) (i : Nat) (Q : D → Prop) : Prop := match σ[i]? with
  | some (some d) => Q d
  | _ => False
def intArg : D → (Option Int → Prop) → Prop
  | .int i, Q => Q (some i)
  | _, _ => False
def lstOf (d : D) (S : Sto) : Option (List D) :=
  match d with
  | .ref a => match S a with
    | some (.lst ds) => some ds
    | some (.rol ds) => some ds
    | _ => none
  | _ => none
def tupOf : D → Option (List D)
  | .tup ds => some ds
  | .kt ds => some ds
  | .key ds => some ds
  | _ => none
/-- list(zip(d, e)) -/
def lzpM (d e : D) (S : Sto) (Q : QE) : Prop := match lstOf d S, lstOf e S with
  | some ds, some es => newL (zipL ds es) S Q
  | _, _ => match tupOf d, tupOf e with
    | some ds, some es => newL (zipL ds es) S Q
    | _, _ => False
/-- max(d, default=e) -/
def mxdM (d e : D) (S : Sto) (Q : QE) : Prop := match d, e with
  | .ref a, .int i => (match seqOf (.ref a) S with
    | some ds => (match intsOf ds with | some ns => (ns = [] → Q (.int i) S) ∧ ∀ m, m ∈ ns → (∀ y, y ∈ ns → y ≤ m) → Q (.int m) S | none => False)
    | none => False)
  | _, _ => False
/-- keys and values by turns -/
def pairUp : List D → Option (List (D × D))
  | [] => some []
  | k :: v :: r => (pairUp r).map ((k, v) :: ·)
  | _ => none
def tgsLen : Tgs → Nat
  | .nil => 0
  | .cons _ r => tgsLen r + 1
/-- what is unpacked -/
def tpM (d : D) (S : Sto) (K : List D → Prop) : Prop := match d with
  | .tup ds => K ds
  | .key ds => K ds
  | .kt ds => K ds
  | .ref a => (match S a with
    | some (.lst ds) => K ds
    | _ => False)
  | _ => False
/-- op= -/
def augM : Op2 → D → D → Sto → QE → Prop
  | .add, .int i, .int j, S, Q => Q (.int (i + j)) S
  | .sub, .int i, .int j, S, Q => Q (.int (i - j)) S
  | .add, .str x, .str y, S, Q => x.length + y.length ≤ sizeLine ∧ Q (.str (x ++ y)) S
  | _, _, _, _, _ => False
section
variable (C : Ctx) (x : XE)
mutual
def wpE : E → Env → Sto → QE → Prop
  | .var i, σ, S, Q => slot σ i fun d => Q d S
  | .glb n, _, S, Q => match C.gl n with | some d => Q d S | none => False
  | .int i, _, S, Q => Q (.int i) S
  | .bl b, _, S, Q => Q (.bl b) S
  | .str z, _, S, Q => Q (.str z) S
  | .non, _, S, Q => Q .non S
  | .bin o a b, σ, S, Q => wpE a σ S fun u S1 => wpE b σ S1 fun v S2 => binM o u v S2 Q
  | .neg a, σ, S, Q => wpE a σ S fun u S1 => match u with | .int i => Q (.int (-i)) S1 | _ => False
  | .not a, σ, S, Q => wpE a σ S fun u S1 => match u with | .bl b => Q (.bl (!b)) S1 | _ => False
  | .cmp o a b, σ, S, Q => wpE a σ S fun u S1 => wpE b σ S1 fun v S2 => cmpM o u v S2 fun c => Q (.bl c) S2
  | .chn o p a b c, σ, S, Q => wpE a σ S fun u S1 => wpE b σ S1 fun v S2 => cmpM o u v S2 fun t =>
      (t = true → wpE c σ S2 fun w S3 => cmpM p v w S3 fun c => Q (.bl c) S3) ∧ (t = false → Q (.bl false) S2)
  | .bop k es, σ, S, Q => wpB k es σ S Q
  | .ite c a b, σ, S, Q => wpT c σ S fun t S1 => (t = true → wpE a σ S1 Q) ∧ (t = false → wpE b σ S1 Q)
  | .tup es, σ, S, Q => wpEs es σ S fun ds S1 => Q (.tup ds) S1
  | .key es, σ, S, Q => wpEs es σ S fun ds S1 => Q (.key ds) S1
  | .lst es, σ, S, Q => wpEs es σ S fun ds S1 => newL ds S1 Q
  | .dnew t, _, S, Q => ∀ p, S p = none → Q (.ref p) (S.put p (.dct t []))
  | .dit a b, σ, S, Q => ∀ p, S p = none → wpE a σ (S.put p (.dct false [])) fun u S1 => wpE b σ S1 fun v S2 => isKey false u = true ∧ S2 p = some (.dct false []) ∧ Q (.ref p) (S2.put p (.dct false [(u, v)]))
  | .idx a b, σ, S, Q => wpE a σ S fun u S1 => wpE b σ S1 fun v S2 => ixM u v S2 Q
  | .sli a lo hi, σ, S, Q => wpE a σ S fun u S1 => wpO lo σ S1 fun l S2 => wpO hi σ S2 fun h S3 => slM u l h S3 Q
  | .slr a, σ, S, Q => wpE a σ S fun u S1 => match u with
    | .ref p => (match S1 p with
      | some (.lst ds) => newL ds.reverse S1 Q
      | some (.rol ds) => newL ds.reverse S1 Q
      | _ => False)
    | .tup ds => Q (.tup ds.reverse) S1
    | _ => False
  | .cal f es, σ, S, Q => C.has .pl f ∧ wpEs es σ S fun ds S1 => C.call .pl f ds S1 Q x
  | .met c m f o es, σ, S, Q => C.has (.mt c m) f ∧ wpE o σ S fun u S1 => match u with
    | .ref a => (match S1 a with
      | some (.ins c' fs) => c' = c ∧ fs.lookup m = none ∧ wpEs es σ S1 fun ds S2 => C.call (.mt c m) f (.ref a :: ds) S2 Q x
      | _ => False)
    | _ => False
  | .mak c f es, σ, S, Q => C.has (.it c) f ∧ wpEs es σ S fun ds S1 => ∀ p, S1 p = none → C.call (.it c) f (.ref p :: ds) (S1.put p (.ins c [])) (fun d S2 => d = .non ∧ Q (.ref p) S2) x
  | .blt f es, σ, S, Q => wpEs es σ S fun ds S1 => bfM C.fl f ds S1 Q
  | .bm m o es, σ, S, Q => wpE o σ S fun u S1 => bmB m u S1 = true ∧ wpEs es σ S1 fun ds S2 => bmM m u ds S2 Q
  | .fld o f, σ, S, Q => wpE o σ S fun u S1 => fldM C.fl u f S1 Q
  | .lc el tg it cs own, σ, S, Q => wpI it σ S fun ds chk S1 => ∀ p, S1 p = none →
      loopC chk (fun d => wpG tg d) (wpCs cs) (wpE el) p (wipeD σ own) (fun S2 => Q (.ref p) S2) ds (S1.put p (.lst []))
  | .lr1 a, σ, S, Q => wpE a σ S fun u S1 => match u with
    | .int n => rngOk 0 n ∧ newL (rngL 0 n) S1 Q
    | _ => False
  | .lr2 a b, σ, S, Q => wpE a σ S fun u S1 => wpE b σ S1 fun v S2 => match u with
    | .int i => (match v with
      | .int j => rngOk i j ∧ newL (rngL i j) S2 Q
      | _ => False)
    | _ => False
  | .lit a, σ, S, Q => wpE a σ S fun u S1 => match u with
    | .ref p => (match S1 p with
      | some (.dct t kvs) => t = false ∧ newL (kvs.map fun kv => .key [kv.1, kv.2]) S1 Q
      | _ => False)
    | _ => False
  | .lrv a, σ, S, Q => wpE a σ S fun u S1 => match seqOf u S1 with
    | some ds => newL ds.reverse S1 Q
    | none => False
  | .lzp a b, σ, S, Q => wpE a σ S fun u S1 => wpE b σ S1 fun v S2 => lzpM u v S2 Q
  | .mxd a b, σ, S, Q => wpE a σ S fun u S1 => wpE b σ S1 fun v S2 => mxdM u v S2 Q
  | .tr1 a, σ, S, Q => wpE a σ S fun u S1 => match u with
    | .int n => rngOk 0 n ∧ Q (.tup (rngL 0 n)) S1
    | _ => False
  | .tr2 a b, σ, S, Q => wpE a σ S fun u S1 => wpE b σ S1 fun v S2 => match u with
    | .int i => (match v with
      | .int j => rngOk i j ∧ Q (.tup (rngL i j)) S2
      | _ => False)
    | _ => False
  | .dls es, σ, S, Q => ∀ p, S p = none → wpEs es σ (S.put p (.dct false [])) fun ds S2 => match pairUp ds with
    | some kvs => ((kvs.all fun kv => isKey false kv.1) = true ∧ kvs.length ≤ 15 ∧ S2 p = some (.dct false [])) ∧ Q (.ref p) (S2.put p (.dct false (mergeD [] kvs)))
    | none => False
  | .cald f es, σ, S, Q => (C.has .pl f ∧ C.df f ≠ []) ∧ wpEs es σ S fun ds S1 => C.call .pl f (ds ++ C.df f) S1 Q x
  | .ceq c f a b, σ, S, Q => C.has (.mt c "__eq__") f ∧ wpE a σ S fun u S1 => wpE b σ S1 fun v S2 => eqOk C.fl c v S2 ∧ ownM C.call c "__eq__" f u [v] S2 (fun d S3 => ∃ r, d = .bl r ∧ Q (.bl r) S3) x
  | .clen c f a, σ, S, Q => C.has (.mt c "__len__") f ∧ wpE a σ S fun u S1 => ownM C.call c "__len__" f u [] S1 (fun d S3 => ∃ n : Nat, n < 2 ^ 62 ∧ d = .int (n : Nat) ∧ Q d S3) x
  | .cstr c f a, σ, S, Q => C.has (.mt c "__str__") f ∧ wpE a σ S fun u S1 => ownM C.call c "__str__" f u [] S1 (fun d S3 => ∃ y, d = .str y ∧ Q d S3) x
  | .fmt a, σ, S, Q => wpE a σ S fun u S1 => fmtM u S1 Q
  | .fst es, σ, S, Q => wpJ es Str.empty σ S fun y S1 => Q (.str y) S1
  | .cak f es z e, σ, S, Q => (C.has .pl f ∧ C.kw f = some z) ∧ wpEs es σ S fun ds S1 => wpE e σ S1 fun d S2 => C.call .pl f (ds ++ [d]) S2 Q x
  | .mek c m f o z e, σ, S, Q => (C.has (.mt c m) f ∧ C.kw f = some z) ∧ wpE o σ S fun u S1 => match u with
    | .ref a => (match S1 a with
      | some (.ins c' fs) => c' = c ∧ fs.lookup m = none ∧ wpE e σ S1 fun d S2 => C.call (.mt c m) f [.ref a, d] S2 Q x
      | _ => False)
    | _ => False
/-- texts one behind the other -/
def wpJ : Es → Str → Env → Sto → (Str → Sto → Prop) → Prop
  | .nil, acc, _, S, Q => Q acc S
  | .cons e r, acc, σ, S, Q => wpE e σ S fun d S1 => match d with
    | .str y => (acc ++ y).length ≤ sizeLine ∧ wpJ r (acc ++ y) σ S1 Q
    | _ => False
def wpEs : Es → Env → Sto → (List D → Sto → Prop) → Prop
  | .nil, _, S, Q => Q [] S
  | .cons e r, σ, S, Q => wpE e σ S fun d S1 => wpEs r σ S1 fun ds S2 => Q (d :: ds) S2
def wpO : Oe → Env → Sto → (Option Int → Sto → Prop) → Prop
  | .no, _, S, Q => Q none S
  | .so e, σ, S, Q => wpE e σ S fun d S1 => intArg d fun i => Q i S1
/-- and, or as values -/
def wpB (k : Bool) : Es → Env → Sto → QE → Prop
  | .nil, _, _, _ => False
  | .cons e r, σ, S, Q => match r with
    | .nil => wpE e σ S Q
    | .cons _ _ => wpE e σ S fun d S1 => match d with
      | .bl b => (b = k → wpB k r σ S1 Q) ∧ (b = !k → Q (.bl (!k)) S1)
      | d => truM d S1 fun b => (b = k → wpB k r σ S1 Q) ∧ (b = !k → Q d S1)
/-- as a test -/
def wpT : Tt → Env → Sto → (Bool → Sto → Prop) → Prop
  | .not a, σ, S, Q => wpT a σ S fun b S1 => Q (!b) S1
  | .bop k es, σ, S, Q => wpTs k es σ S Q
  | .ite c a b, σ, S, Q => wpT c σ S fun t S1 => (t = true → wpT a σ S1 Q) ∧ (t = false → wpT b σ S1 Q)
  | .cmp o a b, σ, S, Q => wpE a σ S fun u S1 => wpE b σ S1 fun v S2 => cmpM o u v S2 fun c => Q c S2
  | .chn o p a b c, σ, S, Q => wpE a σ S fun u S1 => wpE b σ S1 fun v S2 => cmpM o u v S2 fun t =>
      (t = true → wpE c σ S2 fun w S3 => cmpM p v w S3 fun c => Q c S3) ∧ (t = false → Q false S2)
  | .tru e, σ, S, Q => wpE e σ S fun d S1 => truM d S1 fun b => Q b S1
  | .ceq c f a b, σ, S, Q => C.has (.mt c "__eq__") f ∧ wpE a σ S fun u S1 => wpE b σ S1 fun v S2 => eqOk C.fl c v S2 ∧ ownM C.call c "__eq__" f u [v] S2 (fun d S3 => ∃ r, d = .bl r ∧ Q r S3) x
def wpTs (k : Bool) : Tts → Env → Sto → (Bool → Sto → Prop) → Prop
  | .nil, _, _, _ => False
  | .cons e r, σ, S, Q => match r with
    | .nil => wpT e σ S Q
    | .cons _ _ => wpT e σ S fun b S1 => (b = k → wpTs k r σ S1 Q) ∧ (b = !k → Q (!k) S1)
/-- a comprehension's tests: none or one -/
def wpCs : Tts → Env → Sto → (Bool → Sto → Prop) → Prop
  | .nil, _, S, Q => Q true S
  | .cons e r, σ, S, Q => match r with
    | .nil => wpT e σ S Q
    | .cons _ _ => False
/-- a target -/
def wpG : Tg → D → Env → Sto → QS → Prop
  | .nm i, d, σ, S, Q => Q (σ.set i (some d)) S
  | .tp ts, d, σ, S, Q => tpM d S fun ds => ds.length = tgsLen ts ∧ wpGs ts ds σ S Q
  | .ix o i, d, σ, S, Q => wpE o σ S fun u S1 => wpE i σ S1 fun v S2 => putM u v d S2 fun S3 => Q σ S3
  | .at o f, d, σ, S, Q => wpE o σ S fun u S1 => setFM C.fl u f d S1 fun S2 => Q σ S2
def wpGs : Tgs → List D → Env → Sto → QS → Prop
  | .nil, ds, σ, S, Q => ds = [] ∧ Q σ S
  | .cons t r, ds, σ, S, Q => match ds with
    | d :: ds => wpG t d σ S fun σ1 S1 => wpGs r ds σ1 S1 Q
    | [] => False
/-- what is walked: the items, what must stay -/
def wpI : I → Env → Sto → (List D → (Sto → Prop) → Sto → Prop) → Prop
  | .seq e, σ, S, Q => wpE e σ S fun d S1 => itemsM d S1 fun ds => Q ds (fun S' => itemsM d S' fun ds' => ds' = ds) S1
  | .rng es, σ, S, Q => wpEs es σ S fun ds S1 => match ds with
    | [.int n] => -(2 ^ 62) ≤ n ∧ n < 2 ^ 62 ∧ Q (rngL 0 n) (fun _ => True) S1
    | [.int a, .int b] => (-(2 ^ 62) ≤ a ∧ a < 2 ^ 62 ∧ -(2 ^ 62) ≤ b ∧ b < 2 ^ 62) ∧ Q (rngL a b) (fun _ => True) S1
    | [.int a, .int b, .int c] => (c = -1 ∧ -(2 ^ 62) ≤ a ∧ a < 2 ^ 62 ∧ -(2 ^ 62) ≤ b ∧ b < 2 ^ 62) ∧ Q (rngD a b) (fun _ => True) S1
    | _ => False
  | .enu e, σ, S, Q => wpE e σ S fun d S1 => match lstOf d S1 with
    | some ds => Q (enumL 0 ds) (fun S' => lstOf d S' = some ds) S1
    | none => (match tupOf d with
      | some ds => Q (enumL 0 ds) (fun _ => True) S1
      | none => False)
  | .zip a b, σ, S, Q => wpE a σ S fun d S1 => wpE b σ S1 fun e S2 => match lstOf d S2, lstOf e S2 with
    | some ds, some es => Q (zipL ds es) (fun S' => lstOf d S' = some ds ∧ lstOf e S' = some es) S2
    | _, _ => match tupOf d, tupOf e with
      | some ds, some es => Q (zipL ds es) (fun _ => True) S2
      | _, _ => (match tupOf d, lstOf e S2 with
        | some ds, some es => Q (zipL ds es) (fun S' => lstOf e S' = some es) S2
        | _, _ => (match lstOf d S2, tupOf e with
          | some ds, some es => Q (zipL ds es) (fun S' => lstOf d S' = some ds) S2
          | _, _ => False))
  | .rev e, σ, S, Q => wpE e σ S fun d S1 => match seqOf d S1 with
    | some ds => Q ds.reverse (fun S' => seqOf d S' = some ds) S1
    | none => False
  | .its _, _, _, _ => False
end
mutual
def wpS : St1 → En → Env → Sto → Prop
  | .rse, _, _, _ => False
  | .set t e, D, σ, S => wpE C x e σ S fun d S1 => wpG C x t d σ S1 D.nx
  | .aug i o e, D, σ, S => slot σ i fun u => wpE C x e σ S fun v S1 => augM o u v S1 fun w S2 => D.nx (σ.set i (some w)) S2
  | .fla o f p e, D, σ, S => wpE C x o σ S fun u S1 => match u with
    | .ref a => (match S1 a with
      | some (.ins c fs) => C.fl c f = true ∧ (match fs.lookup f with
        | some v => wpE C x e σ S1 fun w S3 => augM p v w S3 fun z S4 => match S4 a with
          | some (.ins c' fs') => c' = c ∧ fs'.length < 1000 ∧ D.nx σ (S4.put a (.ins c (putFd f z fs')))
          | _ => False
        | none => False)
      | _ => False)
    | _ => False
  | .exp e, D, σ, S => wpE C x e σ S fun _ S1 => D.nx σ S1
  | .ret e, D, σ, S => wpE C x e σ S D.rt
  | .retN, D, _, S => D.rt .non S
  | .pas, D, σ, S => D.nx σ S
  | .brk, D, σ, S => D.bk σ S
  | .cnt, D, σ, S => D.ct σ S
  | .iff c a b, D, σ, S => wpT C x c σ S fun t S1 => (t = true → wpSs a D σ S1) ∧ (t = false → wpSs b D σ S1)
  | .whl c b, D, σ, S => ∃ n, loopW (wpT C x c) (wpSs b) D n σ S
  | .for_ t i b, D, σ, S => wpI C x i σ S fun ds chk S1 => loopF chk (fun d => wpG C x t d) (wpSs b) D ds σ S1
def wpSs : Sts → En → Env → Sto → Prop
  | .nil, D, σ, S => D.nx σ S
  | .cons s r, D, σ, S => wpS s { D with nx := fun σ1 S1 => wpSs r D σ1 S1 } σ S
end
end
structure FnDef where
  own : Wh
  ps : Nat
  n : Nat
  body : Sts
structure Prog where
  fn : String → Option FnDef
  gl : String → Option D
  fl : String → String → Bool
  df : String → List D
  kw : String → Option String := fun _ => none
def start (n : Nat) (ds : List D) : Env := ds.map some ++ List.replicate (n - ds.length) none

def wpCall (P : Prog) : Nat → Wh → String → List D → Sto → QE → XE → Prop
  | 0, _, _, _, _, _, _ => False
  | k + 1, w, f, ds, S, Q, x => match P.fn f with
    | none => False
    | some fd => fd.own = w ∧ ds.length = fd.ps ∧ ∃ o : Bool, ∀ S0, (o = true → Conc S S0) → (o = false → S0 = S) →
      wpSs ⟨wpCall P k, fun w f => ∃ fd, P.fn f = some fd ∧ fd.own = w, P.gl, P.fl, P.df, P.kw⟩ x fd.body
        { nx := fun _ S1 => ∃ S2, Abs S2 S1 ∧ Q .non S2, rt := fun d S1 => ∃ S2, Abs S2 S1 ∧ Q d S2, bk := fun _ _ => False, ct := fun _ _ => False } (start fd.n ds) S0
def hasF (P : Prog) (w : Wh) (f : String) : Prop := ∃ fd, P.fn f = some fd ∧ fd.own = w
def ctx (P : Prog) (k : Nat) : Ctx := ⟨wpCall P k, hasF P, P.gl, P.fl, P.df, P.kw⟩
end Lr

set_option Elab.async false
set_option linter.all false
set_option maxRecDepth 100000
set_option maxHeartbeats 2000000
/-! part 2a: new tuples, known to have no dict -/
namespace Lr
open PySem PySem.Spec PyProof.Rows L2
variable {X : L2.Cx}
/-- a plain object -/
def plainO (o : Obj) : Prop := o.dict = none ∧ o.slots = #[]
/-- a tuple that is known to be a plain one -/
def PT1 (H : Hp) (p : Addr) (vs : List V) : Prop := ∃ o : Obj, plainO o ∧ H p = some (.frz o (.tup vs))
/-- a new one -/
def newT (vs : List V) (H : Hp) (Q : VK) : Prop := ∀ (p : Addr) (o : Obj), H p = none → plainO o → Q (.ref p) (upd H p (.frz o (.tup vs)))
theorem tup_laid {pins : List (Addr × Obj)} {σ : L2.St} {H : Hp} {s : Shared} {vs : List V} {its : List Value} (I : Inv X pins σ H s) (r : Vals vs its) (z : vs.length ≤ sizeLine) (t : Nat) :
    Inv X pins σ (upd H s.heap.objs.size (.frz { cls := .type "tuple", data := .seq its.toArray } (.tup vs))) { s with heap := s.heap.push { cls := .type "tuple", data := .seq its.toArray }, toks := t } :=
  I.laid (t' := t) (fun b u e => Heap.get?_push_of_some _ e) (Nat.le_refl _) ⟨Heap.get?_push_size _ rfl, z, its, r, IsTup.new _ _⟩
section
variable {es : List Expr} {t : TA} {pos : Pos}
def tTupF (t : TA) : TE := fun σ H Q => t σ H fun xs H1 => xs.length ≤ sizeLine ∧ newT xs H1 Q
theorem pe_tupF {x1} (h : PA X es t) : PE X (.Tuple es x1 pos) (tTupF t) := by
  refine ⟨fun pins s σ H Q I hq => ?_⟩
  refine wpAny_Tuple_spliced (thn (h.run pos pins s σ H _ I hq) fun us s1 ⟨xs, H1, I1, r, z, q⟩ => ⟨by rw [← r.length]; exact z, ?_⟩)
  exact ⟨.ref _, _, tup_laid I1 r z s1.toks, rfl, q _ _ (I1.hok.fresh (Nat.le_refl _)) ⟨rfl, rfl⟩⟩
end
theorem call_tupleF : CallR X (.type "tuple") (fun xs H Q => ∃ p ys, xs = [.ref p] ∧ ((SqL X.K H p ys ∧ newT ys H Q) ∨ (SqT X.K H p ys ∧ Q (.ref p) H))) := by
  intro pins s σ H xs us Q I r h
  obtain ⟨p, ys, rfl, h⟩ := h
  obtain ⟨u, rfl, rx⟩ := vals1 r
  cases rx
  rcases h with ⟨hq, q⟩ | ⟨hq, q⟩
  · obtain ⟨its, r', pl, hz⟩ := I.list hq
    have hlen := r'.length
    refine call_tuple_list pl.isList (fun h' kp => ?_) (by simp only [List.size_toArray] <;> omega)
    have I1 : Inv X pins σ H { s with heap := h' } := I.kept (t' := s.toks) kp
    exact ⟨.ref _, _, tup_laid I1 r' hz s.toks, rfl, q _ _ (I1.hok.fresh (Nat.le_refl _)) ⟨rfl, rfl⟩⟩
  · obtain ⟨its, r', pl, hz⟩ := I.tuple hq
    exact call_tuple_same pl ⟨.ref p, H, I, rfl, q⟩
/-! tuple(range(..)) -/
def tTupRgF (te : L2.St → Hp → (Int → Int → Hp → Prop) → Prop) : TE := fun σ H Q => te σ H fun a b H1 => RgOk a b ∧ newT (rgV a b) H1 Q
theorem pe_tupRgF {e : Expr} {te : L2.St → Hp → (Int → Int → Hp → Prop) → Prop} {p pos : Pos} (hc : X.calm = true) (hg : Gl X "tuple") (hm : X.mg "tuple" = none) (he : PRg X e te) (na : starEach [e] X.env = (false, eval e X.env) :: starEach [] X.env := by rfl) : PE X (.Call (.Name "tuple" p) [e] [] pos) (tTupRgF te) := by
  refine ⟨fun pins s σ H Q I h => ?_⟩
  refine Call_ (ld_blt I hg hm boot_tuple (PyProof.Rows.callWith_type1 (args_cons (thn (he pins s σ H _ I h) fun x s1 ⟨r, a, b, t, u, v, H1, ex, hr, I1, ok, q⟩ => args_nil ?_) na) na))
  subst ex
  obtain ⟨b1, b2, b3, b4, b5⟩ := ok
  refine call_tuple_range (n := (b - a).toNat) (I1.ok.hd hc) hr (small_one b1 b2 b3 b4) (rangeSize_nat a b) b5 fun h' tk acc hk hi => ?_
  have I2 : Inv X pins σ H1 { s1 with heap := h', toks := tk } := I1.kept hk
  have ea : (acc.toList.toArray : Array Value) = acc := Array.toArray_toList
  have := tup_laid I2 (vals_rg hi) (by rw [rgV_length, sizeLine_eq]; omega) tk
  rw [ea] at this
  exact ⟨.ref h'.objs.size, _, this, rfl, q _ _ (I2.hok.fresh (Nat.le_refl _)) ⟨rfl, rfl⟩⟩
def rCatF (K : PySem.W.Frag) : R2 := fun x y H Q => ∃ a b xs ys, x = .ref a ∧ y = .ref b ∧ SqT K H a xs ∧ SqT K H b ys ∧ xs.length + ys.length ≤ sizeLine ∧
  (xs = [] → Q (.ref b) H) ∧ (xs ≠ [] → ys = [] → Q (.ref a) H) ∧ (xs ≠ [] → ys ≠ [] → newT (xs ++ ys) H Q)
theorem op_catF : OpR X (binaryOp .Add) (rCatF X.K) := by
  intro pins s σ H x y v u Q I rx ry h
  obtain ⟨a, b, xs, ys, rfl, rfl, ha, hb, hz, q0, q1, q2⟩ := h
  cases rx
  cases ry
  obtain ⟨its, r1, p1, _⟩ := I.tuple ha
  obtain ⟨its2, r2, p2, _⟩ := I.tuple hb
  by_cases hx : xs = []
  · subst hx
    cases r1
    exact cat_tup0 p1 p2 ⟨.ref b, H, I, rfl, q0 rfl⟩
  · refine HT.cat_tup p1 p2 (fun z => hx (r1.nil_iff.mp z)) (fun z => ⟨.ref a, H, I, rfl, q1 hx (r2.nil_iff.mp z)⟩) (fun z => ?_) (by rw [← r1.length, ← r2.length]; exact hz)
    exact ⟨.ref _, _, tup_laid I (r1.append r2) (by rw [List.length_append]; exact hz) s.toks, rfl, q2 hx (fun w => z (r2.nil_iff.mpr w)) _ _ (I.hok.fresh (Nat.le_refl _)) ⟨rfl, rfl⟩⟩
def rSlF (K : PySem.W.Frag) : V → Option Int → Option Int → Hp → VK → Prop := fun x lo hi H Q => ∃ a xs, x = .ref a ∧ SqT K H a xs ∧
  (HT.sIx xs.length 0 lo = 0 ∧ HT.sIx xs.length xs.length hi = xs.length → Q (.ref a) H) ∧ (¬ (HT.sIx xs.length 0 lo = 0 ∧ HT.sIx xs.length xs.length hi = xs.length) → newT (cutV xs lo hi) H Q)
theorem sl_tupF : SlR X (rSlF X.K) := by
  intro pins s σ H x v vl vu lo hi sl Q I rx hs pl pu h
  obtain ⟨a, xs, rfl, hx, q1, q2⟩ := h
  cases rx
  obtain ⟨its, r, ht, hz⟩ := I.tuple hx
  have hlen : its.toArray.size = xs.length := by rw [List.size_toArray]; exact r.length.symm
  refine ⟨"tuple", _, PyProof.Rows.slot_tuple_getitem.lookup, ht.typeIs, ?_⟩
  by_cases hw : HT.sIx xs.length 0 lo = 0 ∧ HT.sIx xs.length xs.length hi = xs.length
  · exact getItem_tuple_whole ht hs pl pu (by rw [hlen]; exact hw) ⟨.ref a, H, I, rfl, q1 hw⟩
  · refine HT.getItem_tuple_cut ht hs pl pu (by rw [hlen]; exact hw) ?_ (by rw [hlen]; exact hz)
    rw [hlen]
    exact ⟨.ref _, _, tup_laid I ((r.drop (HT.sIx xs.length 0 lo)).take (HT.sIx xs.length xs.length hi - HT.sIx xs.length 0 lo)) (Nat.le_trans (cutV_length xs lo hi) hz) s.toks, rfl, q2 hw _ _ (I.hok.fresh (Nat.le_refl _)) ⟨rfl, rfl⟩⟩
def rRepF (K : PySem.W.Frag) : R2 := fun x y H Q => ∃ l k xs, x = .ref l ∧ y = .int k ∧ SqT K H l xs ∧ xs ≠ [] ∧ 2 ≤ k ∧ k ≤ 1000 ∧ xs.length ≤ 1000 ∧ newT (List.replicate k.toNat xs).flatten H Q
theorem op_repF : OpR X (binaryOp .Mult) (rRepF X.K) := by
  intro pins s σ H x y v u Q I rx ry h
  obtain ⟨l, k, xs, rfl, rfl, hT, hne, h1, h2, hz, q⟩ := h
  cases rx
  obtain ⟨t, rfl⟩ := ry
  obtain ⟨its, r, ⟨⟨cls, dd, data, sl⟩, ho, hc, n, hd⟩, hs⟩ := I.tuple hT
  simp only at hc hd
  subst hc hd
  have hle : its.length = xs.length := r.length.symm
  have hn : its ≠ [] := fun e => hne (by
    rw [e] at hle
    exact List.eq_nil_of_length_eq_zero hle.symm)
  have hi : its.toArray.isEmpty = false := by
    cases its with
    | nil => exact absurd rfl hn
    | cons a b => rfl
  have hsz0 : its.toArray.size = xs.length := by rw [List.size_toArray, hle]
  have hm : ((its.toArray.size : Nat) : Int) * k ≤ 1000000 := by
    rw [hsz0]
    have a1 : ((xs.length : Nat) : Int) * k ≤ 1000 * k := Int.mul_le_mul_of_nonneg_right (by omega) (by omega)
    omega
  have flen : (List.replicate k.toNat its).flatten.length ≤ sizeLine := by
    rw [PyProof.Rows.lm_len_rep_flat, hle, sizeLine_eq]
    have a1 : k.toNat * xs.length ≤ 1000 * 1000 := Nat.mul_le_mul (by omega) hz
    omega
  have c0 : (decide (k < -(2 ^ 63)) || decide (k ≥ 2 ^ 63)) = false := by
    rw [decide_eq_false (by omega), decide_eq_false (by omega)] <;> rfl
  have c1 : (its.toArray.isEmpty || k == 1) = false := by
    rw [hi, Bool.false_or]
    exact beq_eq_false_iff_ne.mpr (by omega)
  have c2 : (decide (k ≤ 0) || its.toArray.isEmpty) = false := by
    rw [hi, Bool.or_false]
    exact decide_eq_false (by omega)
  have c4 : Builtin.Tuple.tupleTooMany (((its.toArray.size : Nat) : Int) * k) = false := by
    unfold Builtin.Tuple.tupleTooMany
    rw [sizeLine_eq]
    exact decide_eq_false (by omega)
  refine wpAny_binaryOp_repeat_ref (T := "tuple") (U := "int") (by decide) ⟨_, ho, rfl⟩ (fun s' => typeIs_int s' k t) noFill_tuple_mul F.fills_int_mul F.slot_int_rmul repeat_tuple F.slot_int_index.lookup
    (call_meets F.slot_int_rmul (typeIs_int s k t) F.entry_int_rmul (F.args_int_rmul_2 _ _) (int_rmul_tuple k t l its.toArray n dd sl)
      ⟨ho, rfl, ⟨_, ho, rfl⟩, call_meets F.slot_tuple_mul ⟨_, ho, rfl⟩ F.entry_tuple_mul (F.args_tuple_mul_2 _ _) (tuple_mulW l its.toArray n dd sl k t c0 c1 c2 (by omega) c4 (by rw [size_rep, List.size_toArray]; exact flen)) ⟨ho, ?_⟩⟩)
  rw [size_rep]
  exact ⟨.ref _, _, tup_laid I (r.rep k.toNat) (by rw [PyProof.Rows.lm_len_rep_flat, sizeLine_eq]; have a1 : k.toNat * xs.length ≤ 1000 * 1000 := Nat.mul_le_mul (by omega) hz; omega) s.toks, rfl, q _ _ (I.hok.fresh (Nat.le_refl _)) ⟨rfl, rfl⟩⟩
/-! t * 1 -/
theorem tuple_mul1 (l : Addr) (items : Array Value) (n : Nat) (dd : Option Addr) (sl : Array (Option Value)) (u : Tok) :
    Meets (Builtin.«tuple.__mul__» ⟨[.ref l, .int 1 u], []⟩) (fun _ R s => s.heap.get? l = some { cls := .type "tuple", dict := dd, data := .seq items n, slots := sl } ∧ R (.ok (.ret (.ref l))) s) :=
  .of_wp fun prog w A R s h => by
    obtain ⟨hp, g, d, tk, os⟩ := s
    obtain ⟨hl, h⟩ := h
    have f1 := AutoSeq1.idx_int
    have c1 : (items.isEmpty || (1 : Int) == 1) = true := by rw [Bool.or_eq_true]; exact .inr rfl
    wp_walk using wpAny_loadPart' hl
    exact ⟨_, rfl, h⟩
def rRep1 (K : PySem.W.Frag) : R2 := fun x y H Q => ∃ l xs, x = .ref l ∧ y = .int 1 ∧ SqT K H l xs ∧ Q (.ref l) H
theorem op_rep1 : OpR X (binaryOp .Mult) (rRep1 X.K) := by
  intro pins s σ H x y v u Q I rx ry h
  obtain ⟨l, xs, rfl, rfl, hT, q⟩ := h
  cases rx
  obtain ⟨t, rfl⟩ := ry
  obtain ⟨its, r, ⟨⟨cls, dd, data, sl⟩, ho, hc, n, hd⟩, hs⟩ := I.tuple hT
  simp only at hc hd
  subst hc hd
  exact wpAny_binaryOp_repeat_ref (T := "tuple") (U := "int") (by decide) ⟨_, ho, rfl⟩ (fun s' => typeIs_int s' 1 t) noFill_tuple_mul F.fills_int_mul F.slot_int_rmul repeat_tuple F.slot_int_index.lookup
    (call_meets F.slot_int_rmul (typeIs_int s 1 t) F.entry_int_rmul (F.args_int_rmul_2 _ _) (int_rmul_tuple 1 t l its.toArray n dd sl)
      ⟨ho, rfl, ⟨_, ho, rfl⟩, call_meets F.slot_tuple_mul ⟨_, ho, rfl⟩ F.entry_tuple_mul (F.args_tuple_mul_2 _ _) (tuple_mul1 l its.toArray n dd sl t) ⟨ho, ⟨.ref _, H, I, rfl, q⟩⟩⟩)
/-! t * 0 -/
theorem tuple_mul0 (l : Addr) (items : Array Value) (n : Nat) (dd : Option Addr) (sl : Array (Option Value)) (u : Tok) (c1 : (items.isEmpty || (0 : Int) == 1) = false) :
    Meets (Builtin.«tuple.__mul__» ⟨[.ref l, .int 0 u], []⟩) (fun _ R s => s.heap.get? l = some { cls := .type "tuple", dict := dd, data := .seq items n, slots := sl } ∧
      R (.ok (.ret (Value.ref s.heap.objs.size))) { s with heap := s.heap.push { cls := Value.type "tuple", data := Data.seq #[] }, toks := s.toks }) :=
  .of_wp fun prog w A R s h => by
    obtain ⟨hp, g, d, tk, os⟩ := s
    obtain ⟨hl, h⟩ := h
    have f1 := AutoSeq1.idx_int
    have c2 : (decide ((0 : Int) ≤ 0) || items.isEmpty) = true := rfl
    wp_walk using wpAny_loadPart' hl
    repeat (first
      | (refine wpAny_ite_false (decide_eq_false (by rw [c1]; exact Bool.false_ne_true)) ?_; wp_walk using wpAny_loadPart' hl)
      | (refine wpAny_ite_true (decide_eq_true c2) ?_; wp_walk using wpAny_loadPart' hl))
    exact ⟨_, rfl, h⟩
def rRep0 (K : PySem.W.Frag) : R2 := fun x y H Q => ∃ l xs, x = .ref l ∧ y = .int 0 ∧ SqT K H l xs ∧ xs ≠ [] ∧ newT [] H Q
theorem op_rep0 : OpR X (binaryOp .Mult) (rRep0 X.K) := by
  intro pins s σ H x y v u Q I rx ry h
  obtain ⟨l, xs, rfl, rfl, hT, hne, q⟩ := h
  cases rx
  obtain ⟨t, rfl⟩ := ry
  obtain ⟨its, r, ⟨⟨cls, dd, data, sl⟩, ho, hc, n, hd⟩, hs⟩ := I.tuple hT
  simp only at hc hd
  subst hc hd
  have hle : its.length = xs.length := r.length.symm
  have hn : its ≠ [] := fun e => hne (by
    rw [e] at hle
    exact List.eq_nil_of_length_eq_zero hle.symm)
  have hi : its.toArray.isEmpty = false := by
    cases its with
    | nil => exact absurd rfl hn
    | cons a b => rfl
  have c1 : (its.toArray.isEmpty || (0 : Int) == 1) = false := by
    rw [hi]; rfl
  exact wpAny_binaryOp_repeat_ref (T := "tuple") (U := "int") (by decide) ⟨_, ho, rfl⟩ (fun s' => typeIs_int s' 0 t) noFill_tuple_mul F.fills_int_mul F.slot_int_rmul repeat_tuple F.slot_int_index.lookup
    (call_meets F.slot_int_rmul (typeIs_int s 0 t) F.entry_int_rmul (F.args_int_rmul_2 _ _) (int_rmul_tuple 0 t l its.toArray n dd sl)
      ⟨ho, rfl, ⟨_, ho, rfl⟩, call_meets F.slot_tuple_mul ⟨_, ho, rfl⟩ F.entry_tuple_mul (F.args_tuple_mul_2 _ _) (tuple_mul0 l its.toArray n dd sl t c1) ⟨ho, ⟨.ref _, _, tup_laid I (vs := []) (its := []) .nil (Nat.zero_le _) s.toks, rfl, q _ _ (I.hok.fresh (Nat.le_refl _)) ⟨rfl, rfl⟩⟩⟩⟩)
end Lr

set_option Elab.async false
set_option linter.all false
set_option maxRecDepth 100000
set_option maxHeartbeats 2000000
/-! part 2b: dict(pairs) of a list or a plain tuple -/
namespace Lr
open PySem PySem.Spec PyProof.Rows L2
variable {X : L2.Cx}
theorem pairs_at {pins : List (Addr × Obj)} {σ : L2.St} {H : Hp} {s : Shared} (I : Inv X pins σ H s) : ∀ {ps : List Addr} {kvs : List (Key × V)}, Paired (fun p kv => SqT X.K H p [kV kv.1, kv.2]) ps kvs →
    ∃ (pv : List (Value × Value)) (prs : List (Key × Value)), KV kvs prs ∧ prs.length = ps.length ∧ pv.length = ps.length ∧ ∀ (j : Nat) (k v : Value), pv[j]? = some (k, v) → ∃ (b : Addr) (key : Key), ps[j]? = some b ∧ s.heap.IsTuple b #[k, v] ∧ prs[j]? = some (key, v) ∧ keyIs key k = true
  | _, _, .nil => ⟨[], [], .nil, rfl, rfl, fun j k v e => by simp at e⟩
  | _, _, .cons (a := p) (b := kv) h t => by
    obtain ⟨pv, prs, r, hl, hl2, hp⟩ := pairs_at I t
    obtain ⟨its, rv, ht, _⟩ := I.tuple h
    obtain ⟨u, y, ei, ru, ry⟩ := vals2 rv
    subst ei
    refine ⟨(u, y) :: pv, (kv.1, y) :: prs, .cons ⟨rfl, ry⟩ r, by rw [List.length_cons, List.length_cons, hl], by rw [List.length_cons, List.length_cons, hl2], fun j k v e => ?_⟩
    cases j with
    | zero =>
      have e' : (u, y) = (k, v) := Option.some.inj e
      cases e'
      exact ⟨p, kv.1, rfl, ht, rfl, kV_is (P := X.prog) (w := X.w) ru⟩
    | succ j =>
      obtain ⟨b, key, e1, e2, e3, e4⟩ := hp j k v (by simpa using e)
      exact ⟨b, key, by simpa using e1, e2, by simpa using e3, e4⟩
/-- dict(xs), xs a list or a plain tuple of pairs -/
theorem call_dictF (hcalm : X.calm = true) : CallR X (.type "dict") (fun xs H Q => ∃ (a : Addr) (ps : List Addr) (kvs : List (Key × V)), xs = [.ref a] ∧ (SqL X.K H a (ps.map V.ref) ∨ PT1 H a (ps.map V.ref)) ∧ Paired (fun p kv => SqT X.K H p [kV kv.1, kv.2]) ps kvs ∧
    ∀ p, H p = none → Q (.ref p) (upd H p (.dK (mergeK [] kvs)))) := by
  intro pins s σ H xs us Q I r q
  obtain ⟨a, ps, kvs, ex, hq, hp, q⟩ := q
  subst ex
  obtain ⟨u, eu, rx⟩ := vals1 r
  subst eu
  cases rx
  obtain ⟨pv, prs, rel, hl, hl2, hpr⟩ := pairs_at I hp
  have fin : ∀ (h' : Heap) (tk : Nat), h'.DictOf (mixKind X.prog X.w) s.heap.objs.size (merged [] prs) → (∀ b o, s.heap.get? b = some o → h'.get? b = some o) → ps.length ≤ sizeLine →
      EP X pins σ Q (.ref s.heap.objs.size) { s with heap := h', toks := tk } := fun h' tk hd' k hz => by
    have hm : (s.heap.objs.size == sysModules) = false := beq_eq_false_iff_ne.mpr (Nat.ne_of_gt I.big)
    have hlen : (mergeK [] kvs).length ≤ sizeLine := by
      refine Nat.le_trans (length_mergeK kvs []) ?_
      rw [List.length_nil, Nat.zero_add, rel.length, hl]
      exact hz
    exact ⟨.ref s.heap.objs.size, upd H s.heap.objs.size (.dK (mergeK [] kvs)), I.laid (t' := tk) k (Nat.le_refl _) (show ObjOk X.prog X.w _ _ _ (.dK (mergeK [] kvs)) from ⟨hlen, hm, merged [] prs, KV.merge rel .nil, hd'⟩), rfl, q _ (I.hok.fresh (Nat.le_refl _))⟩
  have seq : ∃ (T : String) (its : List Value), (T = "list" ∨ T = "tuple") ∧ its = ps.map Value.ref ∧ PlainSeq T s.heap a its.toArray ∧ ps.length ≤ sizeLine := by
    rcases hq with hq | ⟨o, ho, hq⟩
    · obtain ⟨its, rv, pl, hz⟩ := I.list hq
      rw [List.length_map] at hz
      obtain ⟨o, n, ho, hc, hd, hdat⟩ := pl
      exact ⟨"list", its, .inl rfl, refs_at rv, ⟨o, n, ho, hc, hd, hdat⟩, hz⟩
    · obtain ⟨e, hz, its, rv, o', e', hc, n, hdat⟩ := I.hok a _ hq
      rw [e] at e'; cases e'
      rw [List.length_map] at hz
      exact ⟨"tuple", its, .inr rfl, refs_at rv, ⟨o, n, e, hc, ho.1, hdat⟩, hz⟩
  obtain ⟨T, its, hT, ei, pl, hz⟩ := seq
  subst ei
  have items : PairItems s.heap (ps.map Value.ref).toArray (fun j => (ps[j]?).getD 0) pv := by
    refine ⟨by simp [hl2], fun j k v e => ?_⟩
    obtain ⟨b, key, e1, e2, _, _⟩ := hpr j k v e
    refine ⟨?_, ?_⟩
    · simp [e1]
    · simp only [e1, Option.getD_some]; exact .inl e2
  have have_ : PairsHave (mixKind X.prog X.w) pv.length (PairRel pv) prs := by
    refine ⟨by rw [hl, hl2], fun i k v e => ?_⟩
    obtain ⟨b, key, _, _, e3, e4⟩ := hpr i k v e
    exact ⟨key, e3, e4⟩
  rcases hT with rfl | rfl
  · exact PySem.call_dict_pairs (PairArg.list a (ps.map Value.ref).toArray (fun j => (ps[j]?).getD 0) pv) (I.ok.hd hcalm) ⟨pl, items⟩ have_ (by rw [hl2]; exact hz) fun h' tk hd' k => fin h' tk hd' (fun b o e => k b o (by simp) e) hz
  · exact PySem.call_dict_pairs (PairArg.tuple a (ps.map Value.ref).toArray (fun j => (ps[j]?).getD 0) pv) (I.ok.hd hcalm) ⟨pl, items⟩ have_ (by rw [hl2]; exact hz) fun h' tk hd' k => fin h' tk hd' (fun b o e => k b o (by simp) e) hz
end Lr

set_option Elab.async false
set_option linter.all false
set_option maxRecDepth 100000
/-! part 2: how trees and stores lie in the abstract heap -/
namespace Lr
open PySem PySem.Spec PyProof.Rows L2

/-- a written tuple -/
def KT (K : PySem.W.Frag) (a : Addr) (xs : List V) : Prop :=
  ∃ (o : Obj) (its : Array Value) (n : Nat), K.lookup a = some o ∧ o.cls = .type "tuple" ∧ o.data = .seq its n ∧ its.size ≤ sizeLine ∧ Vals xs its.toList
structure GI where
  K : PySem.W.Frag
  cls : String → Addr
variable {G : GI}
mutual
inductive RepV (G : GI) (H : Hp) : D → V → Prop
  | non : RepV G H .non .non
  | bl (b : Bool) : RepV G H (.bl b) (.bl b)
  | int (i : Int) : RepV G H (.int i) (.int i)
  | str (x : Str) : RepV G H (.str x) (.str x)
  | ty (n : String) : RepV G H (.ty n) (.ty n)
  | cl (c : String) : RepV G H (.cl c) (.ref (G.cls c))
  | ref (a : Nat) : RepV G H (.ref a) (.ref a)
  | tup {p : Addr} {o : Obj} {vs : List V} {ds : List D} : H p = some (.frz o (.tup vs)) → plainO o → RepVs G H ds vs → RepV G H (.tup ds) (.ref p)
  | key {p : Addr} {vs : List V} {ds : List D} : H p = some (.tup vs) → RepVs G H ds vs → RepV G H (.key ds) (.ref p)
  | kt {p : Addr} {vs : List V} {ds : List D} : KT G.K p vs → RepVs G H ds vs → RepV G H (.kt ds) (.ref p)
inductive RepVs (G : GI) (H : Hp) : List D → List V → Prop
  | nil : RepVs G H [] []
  | cons {d : D} {v : V} {ds : List D} {vs : List V} : RepV G H d v → RepVs G H ds vs → RepVs G H (d :: ds) (v :: vs)
end
/-- tuples stay -/
def isT (u : HO) : Prop := (∃ vs, u = .tup vs) ∨ ∃ o vs, u = .frz o (.tup vs)
theorem isT.tup {vs : List V} : isT (.tup vs) := .inl ⟨vs, rfl⟩
theorem isT.frz {o : Obj} {vs : List V} : isT (.frz o (.tup vs)) := .inr ⟨o, vs, rfl⟩
def TExt (H H' : Hp) : Prop := ∀ p u, isT u → H p = some u → H' p = some u
theorem TExt.refl (H : Hp) : TExt H H := fun _ _ _ h => h
theorem TExt.trans {H H' H'' : Hp} (a : TExt H H') (b : TExt H' H'') : TExt H H'' := fun p vs i h => b p vs i (a p vs i h)
theorem TExt.new {H : Hp} {p : Addr} {o : HO} (h : H p = none) : TExt H (upd H p o) := fun q vs _ e => by
  rw [upd_ne (ne_of_none e h)]; exact e
theorem TExt.write {H : Hp} {p : Addr} {o : HO} (h : ∀ u, isT u → H p ≠ some u) : TExt H (upd H p o) := fun q vs i e => by
  rw [upd_ne]
  · exact e
  · rintro rfl; exact h vs i e
mutual
theorem RepV.mono {H H' : Hp} (t : TExt H H') : ∀ {d : D} {v : V}, RepV G H d v → RepV G H' d v
  | _, _, .non => .non
  | _, _, .bl b => .bl b
  | _, _, .int i => .int i
  | _, _, .str x => .str x
  | _, _, .ty n => .ty n
  | _, _, .cl c => .cl c
  | _, _, .ref a => .ref a
  | _, _, .tup h o r => .tup (t _ _ .frz h) o (RepVs.mono t r)
  | _, _, .key h r => .key (t _ _ .tup h) (RepVs.mono t r)
  | _, _, .kt h r => .kt h (RepVs.mono t r)
theorem RepVs.mono {H H' : Hp} (t : TExt H H') : ∀ {ds : List D} {vs : List V}, RepVs G H ds vs → RepVs G H' ds vs
  | _, _, .nil => .nil
  | _, _, .cons a b => .cons (RepV.mono t a) (RepVs.mono t b)
end
section
variable {H : Hp}
theorem RepVs.length : ∀ {ds : List D} {vs : List V}, RepVs G H ds vs → ds.length = vs.length
  | _, _, .nil => rfl
  | _, _, .cons _ r => by simp [RepVs.length r]
theorem RepVs.get : ∀ {ds : List D} {vs : List V} {i : Nat} {d : D}, RepVs G H ds vs → ds[i]? = some d → ∃ v, vs[i]? = some v ∧ RepV G H d v
  | _, _, _, _, .nil, e => by simp at e
  | _, _, 0, _, .cons r _, e => by simp at e; subst e; exact ⟨_, rfl, r⟩
  | _, _, i + 1, d, .cons _ t, e => by
    obtain ⟨u, h1, h2⟩ := RepVs.get (i := i) (d := d) t (by simpa using e)
    exact ⟨u, by simpa using h1, h2⟩
theorem RepVs.getV : ∀ {ds : List D} {vs : List V} {i : Nat} {v : V}, RepVs G H ds vs → vs[i]? = some v → ∃ d, ds[i]? = some d ∧ RepV G H d v
  | _, _, _, _, .nil, e => by simp at e
  | _, _, 0, _, .cons r _, e => by simp at e; subst e; exact ⟨_, rfl, r⟩
  | _, _, i + 1, d, .cons _ t, e => by
    obtain ⟨u, h1, h2⟩ := RepVs.getV (i := i) (v := d) t (by simpa using e)
    exact ⟨u, by simpa using h1, h2⟩
theorem RepVs.append : ∀ {ds es : List D} {vs us : List V}, RepVs G H ds vs → RepVs G H es us → RepVs G H (ds ++ es) (vs ++ us)
  | _, _, _, _, .nil, s => s
  | _, _, _, _, .cons a b, s => .cons a (RepVs.append b s)
theorem RepVs.snoc {ds : List D} {vs : List V} {d : D} {v : V} (r : RepVs G H ds vs) (q : RepV G H d v) : RepVs G H (ds ++ [d]) (vs ++ [v]) := r.append (.cons q .nil)
theorem RepVs.take : ∀ {ds : List D} {vs : List V} (n : Nat), RepVs G H ds vs → RepVs G H (ds.take n) (vs.take n)
  | _, _, 0, _ => .nil
  | _, _, _ + 1, .nil => .nil
  | _, _, n + 1, .cons a b => .cons a (RepVs.take n b)
theorem RepVs.drop : ∀ {ds : List D} {vs : List V} (n : Nat), RepVs G H ds vs → RepVs G H (ds.drop n) (vs.drop n)
  | _, _, 0, r => r
  | _, _, _ + 1, .nil => .nil
  | _, _, n + 1, .cons a b => RepVs.drop n b
theorem RepVs.set {d : D} {v : V} (r : RepV G H d v) : ∀ {ds : List D} {vs : List V} (n : Nat), RepVs G H ds vs → RepVs G H (ds.set n d) (vs.set n v)
  | _, _, _, .nil => .nil
  | _, _, 0, .cons _ b => .cons r b
  | _, _, n + 1, .cons a b => .cons a (RepVs.set r n b)
theorem RepVs.eraseIdx : ∀ {ds : List D} {vs : List V} (n : Nat), RepVs G H ds vs → RepVs G H (ds.eraseIdx n) (vs.eraseIdx n)
  | _, _, _, .nil => .nil
  | _, _, 0, .cons _ b => b
  | _, _, n + 1, .cons a b => .cons a (RepVs.eraseIdx n b)
theorem RepVs.reverse : ∀ {ds : List D} {vs : List V}, RepVs G H ds vs → RepVs G H ds.reverse vs.reverse
  | _, _, .nil => .nil
  | _, _, .cons a b => by simp only [List.reverse_cons]; exact (RepVs.reverse b).snoc a
theorem RepVs.dropLast {ds : List D} {vs : List V} (r : RepVs G H ds vs) : RepVs G H ds.dropLast vs.dropLast := by
  rw [List.dropLast_eq_take, List.dropLast_eq_take, ← r.length]; exact r.take _
theorem RepVs.cut {ds : List D} {vs : List V} (r : RepVs G H ds vs) (lo hi : Option Int) : RepVs G H (cutL ds lo hi) (cutV vs lo hi) := by
  unfold cutL cutV; rw [← r.length]; exact (r.drop _).take _
theorem RepVs.rep {ds : List D} {vs : List V} (r : RepVs G H ds vs) : ∀ n : Nat, RepVs G H (List.replicate n ds).flatten (List.replicate n vs).flatten
  | 0 => .nil
  | n + 1 => by simp only [List.replicate_succ, List.flatten_cons]; exact r.append (RepVs.rep r n)
theorem RepVs.isEmpty {ds : List D} {vs : List V} (r : RepVs G H ds vs) : ds.isEmpty = vs.isEmpty := by cases r <;> rfl
theorem RepV.sqT {ds : List D} {v : V} (r : RepV G H (.tup ds) v) : ∃ p o vs, v = .ref p ∧ H p = some (.frz o (.tup vs)) ∧ plainO o ∧ RepVs G H ds vs := by
  cases r with | tup h o r => exact ⟨_, _, _, rfl, h, o, r⟩
theorem RepV.sqK {ds : List D} {v : V} (r : RepV G H (.key ds) v) : ∃ p vs, v = .ref p ∧ H p = some (.tup vs) ∧ RepVs G H ds vs := by
  cases r with | key h r => exact ⟨_, _, rfl, h, r⟩
theorem RepV.seqT {d : D} {ds : List D} {v : V} (r : RepV G H d v) (h : d = .tup ds ∨ d = .kt ds ∨ d = .key ds) : ∃ p vs, v = .ref p ∧ SqT G.K H p vs ∧ RepVs G H ds vs := by
  rcases h with rfl | rfl | rfl
  · cases r with | tup h o r => exact ⟨_, _, rfl, .inl (.inr ⟨_, h⟩), r⟩
  · cases r with | kt h r => exact ⟨_, _, rfl, .inr h, r⟩
  · cases r with | key h r => exact ⟨_, _, rfl, .of h, r⟩
theorem RepVs.ints : ∀ {ds : List D} {vs : List V} {ns : List Int}, RepVs G H ds vs → intsOf ds = some ns → vs = ns.map V.int
  | _, _, _, .nil, e => by cases e; rfl
  | _, _, _, .cons (d := d) a b, e => by
    cases d <;> simp only [intsOf, reduceCtorEq] at e
    obtain ⟨ms, e1, rfl⟩ := Option.map_eq_some_iff.mp e
    cases a
    rw [RepVs.ints b e1]; rfl
theorem RepVs.bls : ∀ {ds : List D} {vs : List V} {ns : List Bool}, RepVs G H ds vs → blsOf ds = some ns → vs = ns.map V.bl
  | _, _, _, .nil, e => by cases e; rfl
  | _, _, _, .cons (d := d) a b, e => by
    cases d <;> simp only [blsOf, reduceCtorEq] at e
    obtain ⟨ms, e1, rfl⟩ := Option.map_eq_some_iff.mp e
    cases a
    rw [RepVs.bls b e1]; rfl
theorem RepVs.strs : ∀ {ds : List D} {vs : List V} {ns : List Str}, RepVs G H ds vs → strsOf ds = some ns → vs = ns.map V.str
  | _, _, _, .nil, e => by cases e; rfl
  | _, _, _, .cons (d := d) a b, e => by
    cases d <;> simp only [strsOf, reduceCtorEq] at e
    obtain ⟨ms, e1, rfl⟩ := Option.map_eq_some_iff.mp e
    cases a
    rw [RepVs.strs b e1]; rfl
theorem RepVs.ofStrs : ∀ ys : List Str, RepVs G H (ys.map D.str) (ys.map V.str)
  | [] => .nil
  | y :: ys => .cons (.str y) (RepVs.ofStrs ys)
theorem RepVs.ofInts : ∀ ns : List Int, RepVs G H (ns.map D.int) (ns.map V.int)
  | [] => .nil
  | n :: r => .cons (.int n) (RepVs.ofInts r)
end

/-! ### the store in the heap -/
inductive RepKV (G : GI) (H : Hp) : List (D × D) → List (Key × V) → Prop
  | nil : RepKV G H [] []
  | int {i : Int} {d : D} {v : V} {ds : List (D × D)} {vs : List (Key × V)} : RepV G H d v → RepKV G H ds vs → RepKV G H ((.int i, d) :: ds) ((.inl i, v) :: vs)
  | str {x : Str} {d : D} {v : V} {ds : List (D × D)} {vs : List (Key × V)} : RepV G H d v → RepKV G H ds vs → RepKV G H ((.str x, d) :: ds) ((.inr x, v) :: vs)
def kD : Key → D
  | .inl i => .int i
  | .inr x => .str x
inductive RepKT (G : GI) (H : Hp) : List (D × D) → List (List Key × V) → Prop
  | nil : RepKT G H [] []
  | cons {ks : List Key} {d : D} {v : V} {ds : List (D × D)} {vs : List (List Key × V)} : RepV G H d v → RepKT G H ds vs → RepKT G H ((.key (ks.map kD), d) :: ds) ((ks, v) :: vs)
inductive RepF (G : GI) (H : Hp) : List (String × D) → List (Str × V) → Prop
  | nil : RepF G H [] []
  | cons {f : String} {d : D} {v : V} {ds : List (String × D)} {vs : List (Str × V)} : RepV G H d v → RepF G H ds vs → RepF G H ((f, d) :: ds) ((Str.ofString f, v) :: vs)
theorem RepKV.mono {H H' : Hp} (t : TExt H H') : ∀ {ds vs}, RepKV G H ds vs → RepKV G H' ds vs
  | _, _, .nil => .nil
  | _, _, .int a b => .int (a.mono t) (RepKV.mono t b)
  | _, _, .str a b => .str (a.mono t) (RepKV.mono t b)
theorem RepKT.mono {H H' : Hp} (t : TExt H H') : ∀ {ds vs}, RepKT G H ds vs → RepKT G H' ds vs
  | _, _, .nil => .nil
  | _, _, .cons a b => .cons (a.mono t) (RepKT.mono t b)
theorem RepF.mono {H H' : Hp} (t : TExt H H') : ∀ {ds vs}, RepF G H ds vs → RepF G H' ds vs
  | _, _, .nil => .nil
  | _, _, .cons a b => .cons (a.mono t) (RepF.mono t b)
theorem str_inj {a b : String} (h : Str.ofString a = Str.ofString b) : a = b := by
  rw [Str.ofString_eq_toList, Str.ofString_eq_toList] at h
  have h1 : a.toList.map Char.toNat = b.toList.map Char.toNat := by
    have := congrArg (fun x => x.cps.toList) h
    simpa using this
  have h2 : a.toList = b.toList := by
    have inj : ∀ {l m : List Char}, l.map Char.toNat = m.map Char.toNat → l = m := by
      intro l
      induction l with
      | nil => intro m h; cases m with
        | nil => rfl
        | cons _ _ => simp at h
      | cons c l ih => intro m h; cases m with
        | nil => simp at h
        | cons d m =>
          simp only [List.map_cons, List.cons.injEq] at h
          have e1 : c = d := Char.ext (UInt32.toNat_inj.mp h.1)
          rw [e1, ih h.2]
    exact inj h1
  exact String.toList_inj.mp h2
theorem RepF.none {H : Hp} {f : String} : ∀ {fs : List (String × D)} {vs : List (Str × V)}, RepF G H fs vs → fs.lookup f = none → vs.lookup (Str.ofString f) = none
  | _, _, .nil, _ => rfl
  | _, _, .cons (f := g) a b, h => by
    rw [List.lookup_cons] at h ⊢
    cases e : f == g with
    | true => rw [e] at h; cases h
    | false =>
      rw [e] at h
      have : (Str.ofString f == Str.ofString g) = false := by
        rw [beq_eq_false_iff_ne] at e ⊢
        exact fun z => e (str_inj z)
      rw [this]
      exact RepF.none b h
theorem RepF.some {H : Hp} {f : String} {d : D} : ∀ {fs : List (String × D)} {vs : List (Str × V)}, RepF G H fs vs → fs.lookup f = some d → ∃ v, vs.lookup (Str.ofString f) = some v ∧ RepV G H d v
  | _, _, .nil, h => by cases h
  | _, _, .cons (f := g) a b, h => by
    rw [List.lookup_cons] at h ⊢
    cases e : f == g with
    | true =>
      rw [e] at h; cases h
      have : (Str.ofString f == Str.ofString g) = true := by rw [beq_iff_eq] at e ⊢; rw [e]
      rw [this]
      exact ⟨_, rfl, a⟩
    | false =>
      rw [e] at h
      have : (Str.ofString f == Str.ofString g) = false := by
        rw [beq_eq_false_iff_ne] at e ⊢
        exact fun z => e (str_inj z)
      rw [this]
      exact RepF.some b h
theorem RepF.put {H : Hp} {f : String} {d : D} {v : V} (r : RepV G H d v) : ∀ {fs : List (String × D)} {vs : List (Str × V)}, RepF G H fs vs → RepF G H (putFd f d fs) (putF (Str.ofString f) v vs)
  | _, _, .nil => .cons r .nil
  | _, _, .cons (f := g) a b => by
    unfold putFd putF
    by_cases e : g = f
    · subst e; rw [if_pos rfl, if_pos rfl]; exact .cons r b
    · rw [if_neg e, if_neg (fun z => e (str_inj z))]; exact .cons a (RepF.put r b)
theorem RepF.length {H : Hp} : ∀ {fs : List (String × D)} {vs : List (Str × V)}, RepF G H fs vs → fs.length = vs.length
  | _, _, .nil => rfl
  | _, _, .cons _ b => by simp [RepF.length b]
def RepO (G : GI) (H : Hp) (a : Addr) : MO → Prop
  | .lst ds => ∃ vs, H a = some (.lst vs) ∧ RepVs G H ds vs
  | .rol ds => ∃ o vs, H a = some (.frz o (.lst vs)) ∧ RepVs G H ds vs
  | .dct false kvs => ∃ vs, H a = some (.dK vs) ∧ RepKV G H kvs vs
  | .dct true kvs => ∃ vs, H a = some (.dT vs) ∧ RepKT G H kvs vs
  | .ins c fs => ∃ dx vs, H a = some (.ins (G.cls c) dx vs) ∧ RepF G H fs vs
  | .bx => ∃ i j k : Int, H a = some (.lst [.int i, .int j, .int k])
def RepS (G : GI) (S : Sto) (H : Hp) : Prop := ∀ a o, S a = some o → RepO G H a o
def openB (S : Sto) (H : Hp) : Sto := fun a => match S a with
  | some .bx => (match H a with
    | some (.lst [.int i, .int j, .int k]) => some (.lst [.int i, .int j, .int k])
    | _ => none)
  | o => o
section
variable {H H' : Hp} {S S' : Sto} {a p : Addr} {o : MO} {ho : HO}
theorem RepO.there (r : RepO G H a o) : ∃ u, H a = some u ∧ ¬ isT u := by
  cases o with
  | lst ds => obtain ⟨vs, e, _⟩ := r; exact ⟨_, e, fun z => by rcases z with ⟨_, z⟩ | ⟨_, _, z⟩ <;> cases z⟩
  | rol ds => obtain ⟨o, vs, e, _⟩ := r; exact ⟨_, e, fun z => by rcases z with ⟨_, z⟩ | ⟨_, _, z⟩ <;> cases z⟩
  | dct t kvs => cases t <;> (obtain ⟨vs, e, _⟩ := r; exact ⟨_, e, fun z => by rcases z with ⟨_, z⟩ | ⟨_, _, z⟩ <;> cases z⟩)
  | ins c fs => obtain ⟨dx, vs, e, _⟩ := r; exact ⟨_, e, fun z => by rcases z with ⟨_, z⟩ | ⟨_, _, z⟩ <;> cases z⟩
  | bx => obtain ⟨i, j, k, e⟩ := r; exact ⟨_, e, fun z => by rcases z with ⟨_, z⟩ | ⟨_, _, z⟩ <;> cases z⟩
theorem RepO.mono (r : RepO G H a o) (t : TExt H H') (e : H' a = H a) : RepO G H' a o := by
  cases o with
  | lst ds => obtain ⟨vs, e1, q⟩ := r; exact ⟨vs, e.trans e1, q.mono t⟩
  | rol ds => obtain ⟨o, vs, e1, q⟩ := r; exact ⟨o, vs, e.trans e1, q.mono t⟩
  | dct b kvs => cases b <;> (obtain ⟨vs, e1, q⟩ := r; exact ⟨vs, e.trans e1, q.mono t⟩)
  | ins c fs => obtain ⟨dx, vs, e1, q⟩ := r; exact ⟨dx, vs, e.trans e1, q.mono t⟩
  | bx => obtain ⟨i, j, k, e1⟩ := r; exact ⟨i, j, k, e.trans e1⟩
theorem RepS.free (r : RepS G S H) (h : H p = none) : S p = none := by
  cases e : S p with
  | none => rfl
  | some o => obtain ⟨u, q, _⟩ := (r p o e).there; rw [h] at q; cases q
theorem RepS.notup (r : RepS G S H) (e : S a = some o) (u : HO) (i : isT u) : H a ≠ some u := by
  obtain ⟨u', q, n⟩ := (r a o e).there
  rw [q]; intro z; cases z; exact n i
/-- a new thing that the store does not know -/
theorem RepS.laid (r : RepS G S H) (h : H p = none) : RepS G S (upd H p ho) := fun a o e => by
  have : a ≠ p := by rintro rfl; rw [r.free h] at e; cases e
  exact (r a o e).mono (TExt.new h) (upd_ne this)
/-- .. that it knows -/
theorem RepS.new (r : RepS G S H) (h : H p = none) (q : RepO G (upd H p ho) p o) : RepS G (S.put p o) (upd H p ho) := fun a u e => by
  unfold Sto.put at e
  by_cases z : a = p
  · rw [if_pos z] at e; cases e; rw [z]; exact q
  · rw [if_neg z] at e
    exact (r a u e).mono (TExt.new h) (upd_ne z)
theorem RepS.write {o' : MO} (r : RepS G S H) (e : S a = some o') (q : RepO G (upd H a ho) a o) : RepS G (S.put a o) (upd H a ho) := fun b u e' => by
  unfold Sto.put at e'
  by_cases z : b = a
  · rw [if_pos z] at e'; cases e'; rw [z]; exact q
  · rw [if_neg z] at e'
    exact (r b u e').mono (TExt.write (r.notup e)) (upd_ne z)
theorem RepS.abs (r : RepS G S' H) (h : Abs S S') : RepS G S H := fun a o e => by
  obtain ⟨o', e', q⟩ := h a o e
  rcases q with rfl | ⟨rfl, i, j, k, rfl⟩
  · exact r a _ e'
  · obtain ⟨vs, e1, q⟩ := r a _ e'
    refine ⟨i, j, k, ?_⟩
    rw [e1]
    cases q with | cons q1 q => cases q1; cases q with | cons q2 q => cases q2; cases q with | cons q3 q => cases q3; cases q; rfl
theorem RepS.conc (r : RepS G S H) : ∃ S0, Conc S S0 ∧ RepS G S0 H := by
  refine ⟨openB S H, fun a => ?_, fun a o e => ?_⟩
  · cases h : S a with
    | none => exact .inr ⟨by simp, by unfold openB; rw [h]⟩
    | some o =>
      cases o with
      | bx =>
        obtain ⟨i, j, k, q⟩ := r a _ h
        exact .inl ⟨rfl, i, j, k, by unfold openB; rw [h, q]⟩
      | _ => exact .inr ⟨by simp, by unfold openB; rw [h]⟩
  · unfold openB at e
    cases h : S a with
    | none => rw [h] at e; cases e
    | some u =>
      cases u with
      | bx =>
        obtain ⟨i, j, k, q⟩ := r a _ h
        rw [h, q] at e
        cases e
        exact ⟨_, q, .cons (.int _) (.cons (.int _) (.cons (.int _) .nil))⟩
      | _ => rw [h] at e; cases e; exact r a _ h
theorem RepS.lst {ds : List D} (r : RepS G S H) (e : S a = some (.lst ds)) : ∃ vs, H a = some (.lst vs) ∧ RepVs G H ds vs := r a _ e
theorem RepS.rol {ds : List D} (r : RepS G S H) (e : S a = some (.rol ds)) : ∃ o vs, H a = some (.frz o (.lst vs)) ∧ RepVs G H ds vs := r a _ e
theorem RepS.isL {ds : List D} (r : RepS G S H) (e : isL S a ds) : ∃ vs, SqL G.K H a vs ∧ RepVs G H ds vs := by
  rcases e with e | e
  · obtain ⟨vs, e1, q⟩ := r.lst e; exact ⟨vs, .of e1, q⟩
  · obtain ⟨o, vs, e1, q⟩ := r.rol e; exact ⟨vs, .inl (.inr ⟨o, e1⟩), q⟩
/-- a list or a tuple -/
theorem RepS.seq {d : D} {ds : List D} {v : V} (r : RepS G S H) (q : RepV G H d v) (e : seqOf d S = some ds) : ∃ p vs, v = .ref p ∧ (SqL G.K H p vs ∨ SqT G.K H p vs) ∧ RepVs G H ds vs := by
  cases d with
  | tup es => cases e; obtain ⟨p, vs, h1, h2, h3⟩ := q.seqT (.inl rfl); exact ⟨p, vs, h1, .inr h2, h3⟩
  | kt es => cases e; obtain ⟨p, vs, h1, h2, h3⟩ := q.seqT (.inr (.inl rfl)); exact ⟨p, vs, h1, .inr h2, h3⟩
  | key es => cases e; obtain ⟨p, vs, h1, h2, h3⟩ := q.seqT (.inr (.inr rfl)); exact ⟨p, vs, h1, .inr h2, h3⟩
  | ref a =>
    cases q
    simp only [seqOf] at e
    split at e
    · cases e; rename_i h; obtain ⟨vs, h1, h2⟩ := r.isL (.inl h); exact ⟨a, vs, rfl, .inl h1, h2⟩
    · cases e; rename_i h; obtain ⟨vs, h1, h2⟩ := r.isL (.inr h); exact ⟨a, vs, rfl, .inl h1, h2⟩
    · cases e
  | _ => simp [seqOf] at e
end

/-! ### slots -/
def RepE (G : GI) (n : Nat) (H : Hp) (σ : Env) (τ : L2.St) : Prop := τ.length = n ∧ ∀ (i : Nat) (d : D), σ[i]? = some (some d) → ∃ v, τ[i]? = some (some v) ∧ RepV G H d v
theorem RepE.mono {n : Nat} {H H' : Hp} {σ : Env} {τ : L2.St} (r : RepE G n H σ τ) (t : TExt H H') : RepE G n H' σ τ := ⟨r.1, fun i d e => by
  obtain ⟨v, h1, h2⟩ := r.2 i d e; exact ⟨v, h1, h2.mono t⟩⟩
theorem RepE.set {n : Nat} {H : Hp} {σ : Env} {τ : L2.St} {d : D} {v : V} (r : RepE G n H σ τ) (q : RepV G H d v) (j : Nat) (h : j < n) : RepE G n H (σ.set j (some d)) (τ.set j (some v)) := ⟨by rw [List.length_set]; exact r.1, fun i e h1 => by
  by_cases z : i = j
  · subst z
    rw [List.getElem?_set] at h1
    rw [if_pos rfl] at h1
    split at h1
    · cases h1; exact ⟨v, by rw [List.getElem?_set, if_pos rfl, if_pos (by rw [r.1]; exact h)], q⟩
    · cases h1
  · rw [List.getElem?_set_ne (Ne.symm z)] at h1
    rw [List.getElem?_set_ne (Ne.symm z)]
    exact r.2 i e h1⟩
theorem RepE.setN {n : Nat} {H : Hp} {σ : Env} {τ : L2.St} (r : RepE G n H σ τ) (j : Nat) : RepE G n H (σ.set j none) (τ.set j none) := ⟨by rw [List.length_set]; exact r.1, fun i e h1 => by
  by_cases z : i = j
  · subst z
    rw [List.getElem?_set, if_pos rfl] at h1
    split at h1 <;> cases h1
  · rw [List.getElem?_set_ne (Ne.symm z)] at h1
    rw [List.getElem?_set_ne (Ne.symm z)]
    exact r.2 i e h1⟩
theorem RepE.wipe {n : Nat} {H : Hp} {σ : Env} {τ : L2.St} (r : RepE G n H σ τ) : ∀ vs : List Nat, RepE G n H (wipeD σ vs) (wipe τ vs)
  | [] => r
  | v :: vs => (RepE.wipe r vs).setN v
theorem RepE.start {n : Nat} {H : Hp} {ds : List D} {vs : List V} (r : RepVs G H ds vs) (m : Nat) (N : List Str) (hn : n = N.length) (hl : vs.length ≤ N.length) : RepE G n H (start m ds) (L2.start N vs) := ⟨by
  unfold L2.start
  rw [List.length_append, List.length_map, List.length_replicate, hn]
  omega, fun i d e => by
  unfold Lr.start at e
  unfold L2.start
  by_cases h : i < ds.length
  · rw [List.getElem?_append_left (by simpa using h), List.getElem?_map] at e
    cases e1 : ds[i]? with
    | none => rw [e1] at e; cases e
    | some d' =>
      rw [e1] at e; cases e
      obtain ⟨v, h1, h2⟩ := r.get e1
      refine ⟨v, ?_, h2⟩
      rw [List.getElem?_append_left (by rw [List.length_map, ← r.length]; exact h), List.getElem?_map, h1]; rfl
  · rw [List.getElem?_append_right (by simpa using h)] at e
    rw [List.getElem?_replicate] at e
    split at e <;> cases e⟩

/-! ### readings from the middle layer -/
def Cont (G : GI) (Q0 : QE) (H : Hp) (Q : VK) : Prop := ∀ d S' v H', Q0 d S' → TExt H H' → RepS G S' H' → RepV G H' d v → Q v H'
def liftE (G : GI) (n : Nat) (m : Env → Sto → QE → Prop) : TE := fun τ H Q => ∃ σ S Q0, RepE G n H σ τ ∧ RepS G S H ∧ m σ S Q0 ∧ Cont G Q0 H Q
def liftT (G : GI) (n : Nat) (m : Env → Sto → (Bool → Sto → Prop) → Prop) : TT := fun τ H Q => ∃ σ S Q0, RepE G n H σ τ ∧ RepS G S H ∧ m σ S Q0 ∧ ∀ b S' H', Q0 b S' → TExt H H' → RepS G S' H' → Q b H'
def liftA (G : GI) (n L : Nat) (m : Env → Sto → (List D → Sto → Prop) → Prop) : TA := fun τ H Q => ∃ σ S Q0, RepE G n H σ τ ∧ RepS G S H ∧ m σ S Q0 ∧ ∀ ds S' vs H', Q0 ds S' → TExt H H' → RepS G S' H' → RepVs G H' ds vs → vs.length = L → Q vs H'
def liftR2 (G : GI) (r : D → D → Sto → QE → Prop) : R2 := fun x y H Q => ∃ d e S Q0, RepV G H d x ∧ RepV G H e y ∧ RepS G S H ∧ r d e S Q0 ∧ Cont G Q0 H Q
theorem Cont.go {Q0 : QE} {H H' : Hp} {Q : VK} (c : Cont G Q0 H Q) (t : TExt H H') : Cont G Q0 H' Q := fun d S' v H'' q t' r1 r2 => c d S' v H'' q (t.trans t') r1 r2
section
variable {n : Nat} {X : Cx} {e a b : Expr} {pos : Pos}
theorem _root_.L2.PE.le {t t' : TE} (h : PE X e t) (l : ∀ σ H Q, t' σ H Q → t σ H Q) : PE X e t' := ⟨fun pins s σ H Q I q => h.run pins s σ H Q I (l σ H Q q)⟩
theorem _root_.L2.PT.le {t t' : TT} (h : PT X e t) (l : ∀ σ H Q, t' σ H Q → t σ H Q) : PT X e t' := ⟨fun pins s σ H Q I q => h.run pins s σ H Q I (l σ H Q q)⟩
theorem _root_.L2.PA.le {es : List Expr} {t t' : TA} (h : PA X es t) (l : ∀ σ H Q, t' σ H Q → t σ H Q) : PA X es t' := ⟨fun pos pins s σ H Q I q => h.run pos pins s σ H Q I (l σ H Q q)⟩
theorem _root_.L2.PS.le {st : Stmt} {t t' : TS} (h : PS X st t) (l : ∀ N σ H, t' N σ H → t N σ H) : PS X st t' := ⟨fun pins s σ H N I q => h.run pins s σ H N I (l N σ H q)⟩
theorem _root_.L2.PSs.le {st : List Stmt} {t t' : TS} (h : PSs X st t) (l : ∀ N σ H, t' N σ H → t N σ H) : PSs X st t' := ⟨fun pins s σ H N I q => h.run pins s σ H N I (l N σ H q)⟩
theorem _root_.L2.OpR.le {f : Value → Value → Sem Value} {t t' : R2} (h : OpR X f t) (l : ∀ x y H Q, t' x y H Q → t x y H Q) : OpR X f t' := fun pins s σ H x y v u Q I r1 r2 q => h pins s σ H x y v u Q I r1 r2 (l x y H Q q)
/-- two values in a row, then an operation -/
theorem lift_bin {ma mb : Env → Sto → QE → Prop} {r : D → D → Sto → QE → Prop} {τ : L2.St} {H : Hp} {Q : VK} (h : liftE G n (fun σ S Q => ma σ S fun u S1 => mb σ S1 fun v S2 => r u v S2 Q) τ H Q) :
    tOp (liftR2 G r) (liftE G n ma) (liftE G n mb) τ H Q := by
  obtain ⟨σ, S, Q0, rE, rS, h, c⟩ := h
  refine ⟨σ, S, _, rE, rS, h, fun u S1 x H1 q1 t1 rS1 rV1 => ?_⟩
  refine ⟨σ, S1, _, rE.mono t1, rS1, q1, fun v S2 y H2 q2 t2 rS2 rV2 => ?_⟩
  exact ⟨u, v, S2, Q0, rV1.mono t2, rV2, rS2, q2, c.go (t1.trans t2)⟩
theorem lift_one {ma : Env → Sto → QE → Prop} {r : D → Sto → QE → Prop} {τ : L2.St} {H : Hp} {Q : VK} (h : liftE G n (fun σ S Q => ma σ S fun u S1 => r u S1 Q) τ H Q) :
    liftE G n ma τ H fun x H1 => ∃ d S Q0, RepV G H1 d x ∧ RepS G S H1 ∧ r d S Q0 ∧ Cont G Q0 H1 Q := by
  obtain ⟨σ, S, Q0, rE, rS, h, c⟩ := h
  exact ⟨σ, S, _, rE, rS, h, fun u S1 x H1 q1 t1 rS1 rV1 => ⟨u, S1, Q0, rV1, rS1, q1, c.go t1⟩⟩
end
end Lr

set_option Elab.async false
set_option linter.all false
set_option maxRecDepth 100000
set_option maxHeartbeats 4000000
/-! == of dicts whose keys are tuples -/
namespace Lr
open PySem PySem.Spec PyProof.Rows L2
section
variable {prog : Program} {w : World} {K : Type} [DecidableEq K] {knd : HeapKind prog w K} {A : Around} {E : Value → Shared → Prop} {s : Shared}
inductive KeqHitsH (A : Around) (s : Shared) (kb : List (K × Addr × Value)) : List (K × Addr × Value) → Bool → Prop
  | nil : KeqHitsH A s kb [] true
  | miss {k : K} {v : Addr × Value} {r : List (K × Addr × Value)} : atKey kb k = none → KeqHitsH A s kb ((k, v) :: r) false
  | hit {k : K} {v y : Addr × Value} {r : List (K × Addr × Value)} {e b : Bool} : atKey kb k = some y → SeqAt.EqAt A s v.2 y.2 e → KeqHitsH A s kb r b → KeqHitsH A s kb ((k, v) :: r) (e && b)
theorem KeqHitsH.inv {kb : List (K × Addr × Value)} {k : K} {v : Addr × Value} {r : List (K × Addr × Value)} {b : Bool} (h : KeqHitsH A s kb ((k, v) :: r) b) :
    (atKey kb k = none ∧ b = false) ∨ ∃ y e b', atKey kb k = some y ∧ SeqAt.EqAt A s v.2 y.2 e ∧ KeqHitsH A s kb r b' ∧ b = (e && b') := by
  cases h with
  | miss hn => exact .inl ⟨hn, rfl⟩
  | hit hy he hr => exact .inr ⟨_, _, _, hy, he, hr, rfl⟩
theorem keqT_samePairs {nm : String} {a b : Addr} {ka kb : List (K × Addr × Value)} {r : Bool} {Q : Bool → Shared → Prop} (hu : knd.room A) (ha : (a == sysModules) = false) (hb : (b == sysModules) = false)
    (da : s.heap.DictOfH knd a ka) (db : s.heap.DictOfH knd b kb) (hits : ka.length = kb.length → KeqHitsH A s kb ka r) (h : Q (ka.length == kb.length && r) s) :
    wpAny (model prog w) A (Builtin.Dict.samePairs nm a b) Q E s := by
  obtain ⟨oa, es, ep, hoa, _, hda, hea, hka, hna⟩ := da
  obtain ⟨ob, es', ep', hob, _, hdb, heb, hkb, hnb⟩ := db
  have hla : ka.length = es.size := (size_of_entries hea).symm
  have hlb : kb.length = es'.size := (size_of_entries heb).symm
  rw [hla, hlb] at h
  unfold Builtin.Dict.samePairs Builtin.Dict.showsAll
  rw [if_neg (show ¬ (a == sysModules) = true by rw [ha]; exact Bool.false_ne_true), if_neg (show ¬ (b == sysModules) = true by rw [hb]; exact Bool.false_ne_true)]
  refine wpAny_bind (wpAny_pure (wpAny_bind (wpAny_pure ?_)))
  refine wpAny_bind (wpAny_dictEntries hoa hda ?_)
  dsimp only
  refine wpAny_bind (wpAny_dictEntries hob hdb ?_)
  by_cases hsz : es.size = es'.size
  case neg =>
    rw [if_pos (by simpa using hsz)]
    have hbf : (es.size == es'.size) = false := by simpa using hsz
    rw [hbf, Bool.false_and] at h
    exact wpAny_bind (wpAny_rule (wpAny_pure h))
  case pos =>
    have h' : Q r s := by simpa [hsz] using h
    have hits' := hits (by rw [hla, hlb]; exact hsz)
    rw [if_neg (by rw [hsz]; simp)]
    refine wpAny_bind (wpAny_dictEpoch hoa hda ?_)
    refine wpAny_bind ?_
    rw [Std.Legacy.Range.forIn_eq_forIn_range']
    simp only [Std.Legacy.Range.size, Nat.sub_zero, Nat.add_sub_cancel, Nat.div_one]
    refine wpAny_forIn_list _
      (fun rest q s' => s' = s ∧ q = (none, ()) ∧ ∃ i, rest = List.range' i (es.size - i) ∧ i ≤ es.size ∧ KeqHitsH A s kb (ka.drop i) r)
      _ ?_ ?_ _ _ ⟨rfl, rfl, 0, by simp, Nat.zero_le _, hits'⟩
    · rintro x rest q s' ⟨rfl, rfl, i, hr, hi, hpre⟩
      have hlt : i < es.size := by
        rcases Nat.lt_or_ge i es.size with h | h
        · exact h
        · rw [Nat.sub_eq_zero_of_le h] at hr; simp at hr
      obtain ⟨rfl, hrest⟩ : x = i ∧ rest = List.range' (i + 1) (es.size - (i + 1)) := by
        have e : es.size - i = (es.size - (i + 1)) + 1 := by omega
        rw [e, List.range'_succ] at hr
        injection hr with h1 h2
        exact ⟨h1, h2⟩
      refine wpAny_bind (wpAny_dictEntries hoa hda ?_)
      have hlt' : x < ka.length := by rw [hla]; exact hlt
      obtain ⟨k, p, hkv⟩ : ∃ k p, ka[x] = (k, p) := ⟨_, _, rfl⟩
      have hdrop : ka.drop x = (k, p) :: ka.drop (x + 1) := by rw [← hkv]; exact List.drop_eq_getElem_cons hlt'
      have hge : ka[x]? = some (k, p) := by rw [List.getElem?_eq_getElem hlt', hkv]
      have hent : es[x]? = some (entryOfKey knd (k, p)) := by rw [entry_at hea, hge]; rfl
      have hkey : knd.is s'.heap k p.1 := hka (k, p) (by rw [← hkv]; exact List.getElem_mem hlt')
      rw [hent]
      rw [hdrop] at hpre
      dsimp only [entryOfKey]
      show wpAny _ _ (holding [Value.ref p.1, p.2] _ >>= _) _ _ _
      refine wpAny_bind (wpAny_holding (wpAny_bind (wpAny_dictFind_heap hu hkey hob hdb heb hkb hnb ?_ ?_)))
      · intro hno
        have hn : atKey kb k = none := atKey_none_of_get hno
        rcases hpre.inv with ⟨_, er⟩ | ⟨y, _, _, hy, _⟩
        · rw [er] at h'
          refine wpAny_pure ?_
          show wpAny _ _ (if (!false) = true then _ else _) _ _ _
          rw [if_pos (by decide)]
          exact wpAny_pure (wpAny_pure h')
        · rw [hn] at hy; exact nomatch hy
      · intro j pj hj
        have hv' : atKey kb k = some pj := atKey_of_get hnb hj
        refine wpAny_bind (wpAny_dictEntries hob hdb ?_)
        rw [entry_at heb, hj]
        rcases hpre.inv with ⟨hn, _⟩ | ⟨y, e, b', hy, he, hrr, er⟩
        · rw [hv'] at hn; exact nomatch hn
        · have ey : pj = y := Option.some.inj (hv'.symm.trans hy)
          rw [← ey] at he
          refine wpAny_holding (he prog w _ _ ?_)
          cases e with
          | false =>
            rw [er, Bool.false_and] at h'
            show wpAny _ _ (if (!false) = true then _ else _) _ _ _
            rw [if_pos (by decide)]
            exact wpAny_pure (wpAny_pure h')
          | true =>
            rw [Bool.true_and] at er
            rw [← er] at hrr
            show wpAny _ _ (if (!true) = true then _ else _) _ _ _
            rw [if_neg (by decide)]
            refine wpAny_bind (wpAny_dictEpoch hoa hda ?_)
            rw [if_neg (by simp)]
            exact wpAny_pure ⟨rfl, rfl, x + 1, hrest, hlt, hrr⟩
    · rintro q s' ⟨rfl, rfl, i, hr, hi, hpre⟩
      have hin : i = es.size := by
        rcases Nat.lt_or_ge i es.size with h | h
        · have e : es.size - i = (es.size - (i + 1)) + 1 := by omega
          rw [e, List.range'_succ] at hr; exact nomatch hr
        · exact Nat.le_antisymm hi h
      refine wpAny_pure ?_
      rw [hin, ← hla, List.drop_length] at hpre
      cases hpre
      exact h'
theorem keqT_eq {a b : Addr} {ka kb : List (K × Addr × Value)} {r : Bool} {Q : Value → Shared → Prop} (hr : knd.room A.in1) (ha : (a == sysModules) = false) (hb : (b == sysModules) = false)
    (da : s.heap.DictOfH knd a ka) (db : s.heap.DictOfH knd b kb) (hu : A.units < cLine) (hits : ka.length = kb.length → KeqHitsH A.in1 s kb ka r) (h : Q (.bool (ka.length == kb.length && r)) s) :
    wpAny (model prog w) A (compareOp .Eq (.ref a) (.ref b)) Q E s := by
  refine wpAny_richCompare_same_room (op := .Eq) da.typeIs db.typeIs PySem.F.slot_dict_eq (wpAny_call_entry PySem.F.slot_dict_eq da.typeIs PySem.F.entry_dict_eq ?_ (PySem.F.args_dict_eq_2 _ _)) hu
  show wpAny _ _ (Builtin.Dict.dictSlotArgs "__eq__" ⟨[.ref a, .ref b], []⟩ >>= _) _ _ s
  refine wpAny_bind ?_
  unfold Builtin.Dict.dictSlotArgs
  refine wpAny_bind (wpAny_notOrdered_dict da.typeIs ?_)
  show wpAny _ _ (pure (Value.ref a, Value.ref b)) _ _ s
  refine wpAny_pure ?_
  refine wpAny_bind (wpAny_isInstance (T := "dict") db.typeIs PySem.F.sub_dict_dict ?_)
  simp only [Bool.not_true, Bool.false_eq_true, if_false]
  refine wpAny_bind (wpAny_pure (wpAny_bind (wpAny_pure ?_)))
  refine wpAny_bind (keqT_samePairs hr ha hb da db hits ?_)
  refine wpAny_pure ⟨_, rfl, ?_, ?_⟩
  · exact fun x => nomatch x
  · simpa using h
theorem keqT_ne {a b : Addr} {ka kb : List (K × Addr × Value)} {r : Bool} {Q : Value → Shared → Prop} (hr : knd.room A.in1) (ha : (a == sysModules) = false) (hb : (b == sysModules) = false)
    (da : s.heap.DictOfH knd a ka) (db : s.heap.DictOfH knd b kb) (hu : A.units < cLine) (hits : ka.length = kb.length → KeqHitsH A.in1 s kb ka r) (h : Q (.bool (!(ka.length == kb.length && r))) s) :
    wpAny (model prog w) A (compareOp .NotEq (.ref a) (.ref b)) Q E s := by
  refine wpAny_richCompare_same_room (op := .NotEq) da.typeIs db.typeIs PySem.F.slot_dict_ne (wpAny_call_entry PySem.F.slot_dict_ne da.typeIs PySem.F.entry_dict_ne ?_ (PySem.F.args_dict_ne_2 _ _)) hu
  show wpAny _ _ (Builtin.Dict.dictSlotArgs "__ne__" ⟨[.ref a, .ref b], []⟩ >>= _) _ _ s
  refine wpAny_bind ?_
  unfold Builtin.Dict.dictSlotArgs
  refine wpAny_bind (wpAny_notOrdered_dict da.typeIs ?_)
  show wpAny _ _ (pure (Value.ref a, Value.ref b)) _ _ s
  refine wpAny_pure ?_
  refine wpAny_bind (wpAny_isInstance (T := "dict") db.typeIs PySem.F.sub_dict_dict ?_)
  simp only [Bool.not_true, Bool.false_eq_true, if_false]
  refine wpAny_bind (wpAny_pure (wpAny_bind (wpAny_pure ?_)))
  refine wpAny_bind (keqT_samePairs hr ha hb da db hits ?_)
  refine wpAny_pure ⟨_, rfl, ?_, ?_⟩
  · exact fun x => nomatch x
  · simpa using h
end
end Lr

set_option Elab.async false
set_option linter.all false
set_option maxRecDepth 100000
set_option maxHeartbeats 2000000
/-! part 3: operations on values -/
namespace Lr
open PySem PySem.Spec PyProof.Rows L2
variable {G : GI} {X : L2.Cx}
def opOf : Op2 → Operator
  | .add => .Add
  | .sub => .Sub
  | .mul => .Mult
  | .mod => .Mod
  | .fdiv => .FloorDiv
  | .pow => .Pow
theorem cont_same {Q0 : QE} {H : Hp} {Q : VK} {S : Sto} {d : D} {v : V} (c : Cont G Q0 H Q) (rS : RepS G S H) (q : Q0 d S) (r : RepV G H d v) : Q v H := c d S v H q (TExt.refl H) rS r
theorem cont_tup {Q0 : QE} {H : Hp} {Q : VK} {S : Sto} {ds : List D} {vs : List V} (c : Cont G Q0 H Q) (rS : RepS G S H) (q : Q0 (.tup ds) S) (r : RepVs G H ds vs) : newT vs H Q := fun p o hp ho =>
  c _ S _ _ q (TExt.new hp) (rS.laid hp) (.tup upd_same ho (r.mono (TExt.new hp)))
theorem cont_key {Q0 : QE} {H : Hp} {Q : VK} {S : Sto} {ds : List D} {vs : List V} (c : Cont G Q0 H Q) (rS : RepS G S H) (q : Q0 (.key ds) S) (r : RepVs G H ds vs) : ∀ p, H p = none → Q (.ref p) (upd H p (.tup vs)) := fun p hp =>
  c _ S _ _ q (TExt.new hp) (rS.laid hp) (.key upd_same (r.mono (TExt.new hp)))
theorem cont_new {Q0 : QE} {H : Hp} {Q : VK} {S : Sto} {ds : List D} {vs : List V} (c : Cont G Q0 H Q) (rS : RepS G S H) (q : newL ds S Q0) (r : RepVs G H ds vs) : ∀ p, H p = none → Q (.ref p) (upd H p (.lst vs)) := fun p hp =>
  c _ _ _ _ (q p (rS.free hp)) (TExt.new hp) (rS.new hp ⟨vs, upd_same, r.mono (TExt.new hp)⟩) (.ref p)

theorem div_far {k : Int} (h1 : 1 ≤ k) (h2 : k ≤ 1000) : 1000 ≤ (2 ^ 63 - 1) / k := by
  rw [Int.le_ediv_iff_mul_le (by omega)]
  omega
theorem tooLong_not {n m : Nat} (h1 : n ≤ 1000) (h2 : m ≤ 1000) : Builtin.Str.tooLong (n * m) = false := by
  have e1 : n * m ≤ 1000 * 1000 := Nat.mul_le_mul h1 h2
  unfold Builtin.Str.tooLong
  rw [decide_eq_false_iff_not, sizeLine_eq]
  omega
theorem op_bin (o : Op2) : OpR X (binaryOp (opOf o)) (liftR2 ⟨X.K, G.cls⟩ (binM o)) := by
  intro pins s σ H x y v u Q I r1 r2 ⟨d, e, S, Q0, rd, re, rS, q, c⟩
  unfold binM at q
  split at q
  · cases rd; cases re
    exact op_add pins s σ H _ _ v u Q I r1 r2 ⟨_, _, rfl, rfl, cont_same c rS q (.int _)⟩
  · cases rd; cases re
    exact op_sub pins s σ H _ _ v u Q I r1 r2 ⟨_, _, rfl, rfl, cont_same c rS q (.int _)⟩
  · cases rd; cases re
    obtain ⟨m, q⟩ := q
    rcases m with m | m
    · exact op_mul pins s σ H _ _ v u Q I r1 r2 ⟨_, _, rfl, rfl, m, cont_same c rS q (.int _)⟩
    · exact op_mulW pins s σ H _ _ v u Q I r1 r2 ⟨_, _, rfl, rfl, m, cont_same c rS q (.int _)⟩
  · cases rd; cases re
    exact op_mod pins s σ H _ _ v u Q I r1 r2 ⟨_, _, rfl, rfl, q.1, cont_same c rS q.2 (.int _)⟩
  · cases rd; cases re
    exact op_fdivW pins s σ H _ _ v u Q I r1 r2 ⟨_, _, rfl, rfl, q.1, cont_same c rS q.2 (.int _)⟩
  · cases rd; cases re
    exact op_pow pins s σ H _ _ v u Q I r1 r2 ⟨_, _, rfl, rfl, q.1, cont_same c rS q.2 (.int _)⟩
  · cases rd; cases re
    exact op_add_str pins s σ H _ _ v u Q I r1 r2 ⟨_, _, rfl, rfl, q.1, cont_same c rS q.2 (.str _)⟩
  · obtain ⟨p1, vs1, rfl, h1, w1⟩ := rd.seqT (.inl rfl)
    obtain ⟨p2, vs2, rfl, h2, w2⟩ := re.seqT (.inl rfl)
    obtain ⟨hz, q⟩ := q
    refine op_catF pins s σ H _ _ v u Q I r1 r2 ⟨p1, p2, vs1, vs2, rfl, rfl, h1, h2, by rw [← w1.length, ← w2.length]; exact hz, fun e => ?_, fun _ e => ?_, fun _ _ => cont_tup c rS q (w1.append w2)⟩
    · subst e
      cases w1
      exact cont_same c rS q re
    · subst e
      cases w2
      rw [List.append_nil] at q
      exact cont_same c rS q rd
  · cases rd; cases re
    split at q
    · rename_i xs ys e1 e2
      obtain ⟨vs1, h1, w1⟩ := rS.lst e1
      obtain ⟨vs2, h2, w2⟩ := rS.lst e2
      exact op_cat pins s σ H _ _ v u Q I r1 r2 ⟨_, _, vs1, vs2, rfl, rfl, h1, h2, by rw [← w1.length, ← w2.length]; exact q.1, cont_new c rS q.2 (w1.append w2)⟩
    · exact q.elim
  · obtain ⟨p1, vs1, rfl, h1, w1⟩ := rd.seqT (.inl rfl)
    cases re
    obtain ⟨q1, q2, q3, q4, q⟩ := q
    rcases Int.lt_or_eq_of_le q2 with hk0 | hk0
    rotate_left
    · subst hk0
      have e : ∀ xs : List D, repL 0 xs = [] := fun xs => by simp [repL]
      rw [e] at q
      exact op_rep0 pins s σ H _ _ v u Q I r1 r2 ⟨p1, vs1, rfl, rfl, h1, fun z => (by subst z; cases w1; exact q1 rfl), cont_tup c rS q .nil⟩
    rcases Int.lt_or_eq_of_le (show 1 ≤ _ from hk0) with hk | hk
    · refine op_repF pins s σ H _ _ v u Q I r1 r2 ⟨p1, _, vs1, rfl, rfl, h1, fun z => ?_, hk, q3, by rw [← w1.length]; exact q4, cont_tup c rS q (w1.rep _)⟩
      subst z; cases w1; exact q1 rfl
    · subst hk
      have e : ∀ xs : List D, repL 1 xs = xs := fun xs => by simp [repL]
      rw [e] at q
      exact op_rep1 pins s σ H _ _ v u Q I r1 r2 ⟨p1, vs1, rfl, rfl, h1, cont_same c rS q rd⟩
  · cases rd; cases re
    obtain ⟨t1, rfl⟩ := r1
    obtain ⟨t2, rfl⟩ := r2
    obtain ⟨q1, q2, q3, q⟩ := q
    refine SB.mul ⟨?_, fun h1 _ h2 => ?_, fun h1 h2 => ?_⟩ fun t' n => ⟨.str _, H, ?_, ⟨t', rfl⟩, cont_same c rS q (.str _)⟩
    · rw [decide_eq_false (by omega), decide_eq_false (by omega)]; rfl
    · have e1 := div_far (by omega) q2
      omega
    · exact tooLong_not q3 (by omega)
    · exact I.tok n
  · cases rd; cases re
    split at q
    · rename_i e1
      obtain ⟨vs1, h1, w1⟩ := rS.lst e1
      obtain ⟨q1, q2, q3, q⟩ := q
      refine op_rep pins s σ H _ _ v u Q I r1 r2 ⟨_, _, vs1, rfl, rfl, h1, by omega, by omega, ?_, cont_new c rS q (w1.rep _)⟩
      rw [← w1.length, sizeLine_eq]
      refine Nat.le_trans (Nat.mul_le_mul q3 (show _ ≤ 1000 by omega)) (by omega)
    · exact q.elim
  · exact q.elim

/-! ### comparisons -/
section
variable {H : Hp} {S : Sto} {f : Nat → Option PyData}
mutual
theorem dp_of (hf : ∀ a d, f a = some d → Dp G.K H (.ref a) d) : ∀ {x : D} {v : V} {d : PyData}, RepV G H x v → D.pyW f x = some d → Dp G.K H v d
  | _, _, _, .non, e => by cases e; exact .non
  | _, _, _, .bl b, e => by cases e; exact .bl b
  | _, _, _, .int i, e => by cases e; exact .int i
  | _, _, _, .str x, e => by cases e; exact .str x
  | _, _, _, .ty _, e => by simp [D.pyW] at e
  | _, _, _, .cl _, e => by simp [D.pyW] at e
  | _, _, _, .ref a, e => hf a _ e
  | _, _, _, .kt h r, e => by
    simp only [D.pyW] at e
    obtain ⟨es, e1, rfl⟩ := Option.map_eq_some_iff.mp e
    exact .tup (.inr h) (dps_of hf r e1)
  | _, _, _, .key h r, e => by
    simp only [D.pyW] at e
    obtain ⟨es, e1, rfl⟩ := Option.map_eq_some_iff.mp e
    exact .tup (.inl (.inl h)) (dps_of hf r e1)
  | _, _, _, .tup h _ r, e => by
    simp only [D.pyW] at e
    obtain ⟨es, e1, rfl⟩ := Option.map_eq_some_iff.mp e
    exact .tup (.inl (.inr ⟨_, h⟩)) (dps_of hf r e1)
theorem dps_of (hf : ∀ a d, f a = some d → Dp G.K H (.ref a) d) : ∀ {x : List D} {v : List V} {d : List PyData}, RepVs G H x v → D.pyWs f x = some d → DpAll G.K H v d
  | _, _, _, .nil, e => by cases e; exact .nil
  | _, _, _, .cons a b, e => by
    simp only [D.pyWs] at e
    split at e
    · cases e
      rename_i h1 h2
      exact .cons (dp_of hf a h1) (dps_of hf b h2)
    · cases e
end
theorem dp_ref (r : RepS G S H) : ∀ n a d, pyA S n a = some d → Dp G.K H (.ref a) d
  | 0, _, _, e => by cases e
  | n + 1, a, d, e => by
    simp only [pyA] at e
    split at e
    · rename_i h
      obtain ⟨es, e1, rfl⟩ := Option.map_eq_some_iff.mp e
      obtain ⟨vs, h1, h2⟩ := r.isL (.inl h)
      exact .lst h1 (dps_of (fun a d => dp_ref r n a d) h2 e1)
    · rename_i h
      obtain ⟨es, e1, rfl⟩ := Option.map_eq_some_iff.mp e
      obtain ⟨vs, h1, h2⟩ := r.isL (.inr h)
      exact .lst h1 (dps_of (fun a d => dp_ref r n a d) h2 e1)
    · cases e
mutual
theorem plain_of (hf : ∀ a d, f a = some d → d.plain = true) : ∀ {x : D} {d : PyData}, D.pyW f x = some d → d.plain = true
  | .non, _, e => by cases e; rfl
  | .bl b, _, e => by cases e; rfl
  | .int i, _, e => by cases e; rfl
  | .str x, _, e => by cases e; rfl
  | .ty _, _, e => by simp [D.pyW] at e
  | .cl _, _, e => by simp [D.pyW] at e
  | .ref a, _, e => hf a _ e
  | .tup ds, _, e => by
    simp only [D.pyW] at e
    obtain ⟨es, e1, rfl⟩ := Option.map_eq_some_iff.mp e
    rw [PyData.plain]; exact plains_of hf e1
  | .kt ds, _, e => by
    simp only [D.pyW] at e
    obtain ⟨es, e1, rfl⟩ := Option.map_eq_some_iff.mp e
    rw [PyData.plain]; exact plains_of hf e1
  | .key ds, _, e => by
    simp only [D.pyW] at e
    obtain ⟨es, e1, rfl⟩ := Option.map_eq_some_iff.mp e
    rw [PyData.plain]; exact plains_of hf e1
theorem plains_of (hf : ∀ a d, f a = some d → d.plain = true) : ∀ {x : List D} {d : List PyData}, D.pyWs f x = some d → PyData.plainAll d = true
  | [], _, e => by cases e; rfl
  | x :: xs, _, e => by
    simp only [D.pyWs] at e
    split at e
    · cases e
      rename_i h1 h2
      rw [PyData.plainAll, plain_of hf h1, plains_of hf h2]; rfl
    · cases e
end
theorem plain_ref : ∀ n a d, pyA S n a = some d → d.plain = true
  | 0, _, _, e => by cases e
  | n + 1, a, d, e => by
    simp only [pyA] at e
    split at e
    · obtain ⟨es, e1, rfl⟩ := Option.map_eq_some_iff.mp e
      rw [PyData.plain]; exact plains_of (fun a d => plain_ref n a d) e1
    · obtain ⟨es, e1, rfl⟩ := Option.map_eq_some_iff.mp e
      rw [PyData.plain]; exact plains_of (fun a d => plain_ref n a d) e1
    · cases e
theorem plain_v {x : D} {d : PyData} (e : pyv S x = some d) : d.plain = true := plain_of (plain_ref 16) e
theorem dp_v {x : D} {v : V} {d : PyData} (rS : RepS G S H) (r : RepV G H x v) (e : pyv S x = some d) : Dp G.K H v d := dp_of (dp_ref rS 16) r e
end
def rEqP (K : PySem.W.Frag) : R2 := fun x y H Q => ∃ d e, Dp K H x d ∧ Dp K H y e ∧ d.plain = true ∧ e.plain = true ∧ (d.depth ≤ 64 ∨ e.depth ≤ 64) ∧ Q (.bl (PyData.eqv d e)) H
def rNeP (K : PySem.W.Frag) : R2 := fun x y H Q => ∃ d e, Dp K H x d ∧ Dp K H y e ∧ d.plain = true ∧ e.plain = true ∧ (d.depth ≤ 64 ∨ e.depth ≤ 64) ∧ Q (.bl (!PyData.eqv d e)) H
theorem op_eqP (hu : X.A.units + 64 < cLine) : OpR X (compareOp .Eq) (rEqP X.K) := by
  intro pins s σ H x y v u Q I rx ry ⟨d, e, hd, he, sd, se, z, q⟩
  obtain ⟨as, r1⟩ := Dp.reads I d x v hd rx
  obtain ⟨bs, r2⟩ := Dp.reads I e y u he ry
  exact SeqAt.eq_plain r1 r2 sd se (by omega) ⟨.bl _, H, I, rfl, q⟩
theorem op_neP (hu : X.A.units + 64 < cLine) : OpR X (compareOp .NotEq) (rNeP X.K) := by
  intro pins s σ H x y v u Q I rx ry ⟨d, e, hd, he, sd, se, z, q⟩
  obtain ⟨as, r1⟩ := Dp.reads I d x v hd rx
  obtain ⟨bs, r2⟩ := Dp.reads I e y u he ry
  exact SeqAt.ne_plain r1 r2 sd se (by omega) ⟨.bl _, H, I, rfl, q⟩
def rInP (K : PySem.W.Frag) (neg : Bool) : R2 := fun x y H Q => ∃ d es, Dp K H x d ∧ (Dp K H y (.list es) ∨ Dp K H y (.tuple es)) ∧ d.plain = true ∧ PyData.plainAll es = true ∧ (PyData.depthAll es ≤ 63 ∨ d.depth ≤ 63) ∧ Q (.bl (if neg = true then !(es.any fun z => PyData.eqv z d) else es.any fun z => PyData.eqv z d)) H
theorem op_inP (neg : Bool) (hu : X.A.units + 65 < cLine) : OpR X (compareOp (if neg = true then .NotIn else .In)) (rInP X.K neg) := by
  intro pins s σ H x y v u Q I rx ry ⟨d, es, hd, he, sd, se, z, q⟩
  obtain ⟨as, r1⟩ := Dp.reads I d x v hd rx
  rcases he with he | he
  · obtain ⟨bs, r2⟩ := Dp.reads I _ y u he ry
    cases neg
    · exact SeqAt.in_list_data r2 r1 se sd (by omega) ⟨.bl _, H, I, rfl, q⟩
    · exact SeqAt.notIn_list_data r2 r1 se sd (by omega) ⟨.bl _, H, I, rfl, q⟩
  · obtain ⟨bs, r2⟩ := Dp.reads I _ y u he ry
    cases neg
    · exact SeqAt.in_tuple_data r2 r1 se sd (by omega) ⟨.bl _, H, I, rfl, q⟩
    · exact SeqAt.notIn_tuple_data r2 r1 se sd (by omega) ⟨.bl _, H, I, rfl, q⟩
/-- a comparison's reading -/
def liftC (G : GI) (r : D → D → Sto → (Bool → Prop) → Prop) : R2 := fun x y H Q => ∃ d e S Q0, RepV G H d x ∧ RepV G H e y ∧ RepS G S H ∧ r d e S Q0 ∧ ∀ b, Q0 b → Q (.bl b) H
def cmpOf : Cmp → CmpOp
  | .eq => .Eq
  | .ne => .NotEq
  | .lt => .Lt
  | .le => .LtE
  | .gt => .Gt
  | .ge => .GtE
  | .is => .Is
  | .isn => .IsNot
  | .mem => .In
  | .nmem => .NotIn
theorem scal_eq {x y : V} {H : Hp} {Q : VK} {b : Bool} (h : scal x y = true) (q : Q (.bl b) H) (e : decide (x = y) = b) : rEq x y H Q := ⟨h, by rw [e]; exact q⟩
theorem eqF_V {x y : D} {v u : V} {H : Hp} (rx : RepV G H x v) (ry : RepV G H y u) (fx : flatD x = true) (fy : flatD y = true) : eqV v u = eqF x y ∧ flatV v = true ∧ flatV u = true := by
  cases rx <;> simp [flatD] at fx <;> cases ry <;> simp [flatD] at fy <;> simp [eqV, eqF, flatV]
theorem mem_flat {x : D} {v : V} {H : Hp} (rx : RepV G H x v) (fx : flatD x = true) : ∀ {ds : List D} {vs : List V}, RepVs G H ds vs → ds.all flatD = true → inV v vs = (ds.any fun y => eqF y x) ∧ flatV v = true ∧ vs.all flatV = true
  | _, _, .nil, _ => ⟨rfl, (eqF_V rx rx fx fx).2.1, rfl⟩
  | _, _, .cons a b, h => by
    simp only [List.all_cons, Bool.and_eq_true] at h
    obtain ⟨i1, i2, i3⟩ := mem_flat rx fx b h.2
    obtain ⟨j1, j2, j3⟩ := eqF_V a rx h.1 fx
    refine ⟨?_, i2, ?_⟩
    · unfold inV at i1 ⊢
      simp only [List.any_cons, i1, j1]
    · simp only [List.all_cons, j2, i3, Bool.and_self]

/-! ### dicts -/
theorem kD_inj {k k' : Key} (h : kD k = kD k') : k = k' := by
  cases k <;> cases k' <;> simp [kD] at h <;> rw [h]
theorem kDs_inj : ∀ {ks ks' : List Key}, ks.map kD = ks'.map kD → ks = ks'
  | [], [], _ => rfl
  | [], _ :: _, h => by simp at h
  | _ :: _, [], h => by simp at h
  | a :: r, b :: r', h => by
    simp only [List.map_cons, List.cons.injEq] at h
    rw [kD_inj h.1, kDs_inj h.2]
theorem key0_of {x : D} (h : isKey0 x = true) : ∃ k, x = kD k := by
  cases x <;> simp [isKey0] at h
  · exact ⟨.inl _, rfl⟩
  · exact ⟨.inr _, rfl⟩
theorem keys0_of : ∀ {ds : List D}, ds.all isKey0 = true → ∃ ks : List Key, ds = ks.map kD
  | [], _ => ⟨[], rfl⟩
  | d :: r, h => by
    simp only [List.all_cons, Bool.and_eq_true] at h
    obtain ⟨k, rfl⟩ := key0_of h.1
    obtain ⟨ks, rfl⟩ := keys0_of h.2
    exact ⟨k :: ks, rfl⟩
section
variable {H : Hp} {S : Sto}
theorem kD_V {k : Key} {v : V} (r : RepV G H (kD k) v) : v = kV k := by
  cases k <;> (unfold kD at r; cases r; rfl)
theorem kDs_V : ∀ {ks : List Key} {vs : List V}, RepVs G H (ks.map kD) vs → vs = ks.map kV
  | [], _, .nil => rfl
  | k :: ks, _, .cons a b => by rw [kD_V a, kDs_V b]; rfl
def OptRep (G : GI) (H : Hp) : Option D → Option V → Prop
  | some d, some v => RepV G H d v
  | none, none => True
  | _, _ => False
theorem look_kv : ∀ {kvs : List (D × D)} {vs : List (Key × V)} (k : Key), RepKV G H kvs vs → OptRep G H (lookD kvs (kD k)) (valV vs k)
  | _, _, _, .nil => trivial
  | _, _, k, .int (i := i) (ds := ds) (vs := vs) a b => by
    have ih := look_kv k b
    unfold valV at ih ⊢
    simp only [lookD, List.find?_cons]
    by_cases e : (Sum.inl i : Key) = k
    · subst e; simp [kD]; exact a
    · have e' : ¬ D.int i = kD k := fun z => e (kD_inj (k := .inl i) z)
      simp [e, e']; exact ih
  | _, _, k, .str (x := i) (ds := ds) (vs := vs) a b => by
    have ih := look_kv k b
    unfold valV at ih ⊢
    simp only [lookD, List.find?_cons]
    by_cases e : (Sum.inr i : Key) = k
    · subst e; simp [kD]; exact a
    · have e' : ¬ D.str i = kD k := fun z => e (kD_inj (k := .inr i) z)
      simp [e, e']; exact ih
theorem look_kt : ∀ {kvs : List (D × D)} {vs : List (List Key × V)} (k : List Key), RepKT G H kvs vs → OptRep G H (lookD kvs (.key (k.map kD))) (valV vs k)
  | _, _, _, .nil => trivial
  | _, _, k, .cons (ks := i) (ds := ds) (vs := vs) a b => by
    have ih := look_kt k b
    unfold valV at ih ⊢
    simp only [lookD, List.find?_cons]
    by_cases e : i = k
    · subst e; simp; exact a
    · have e' : ¬ D.key (i.map kD) = D.key (k.map kD) := fun z => e (kDs_inj (D.key.inj z))
      simp only [if_neg e', decide_eq_false e]; exact ih
theorem any_kv : ∀ {kvs : List (D × D)} {vs : List (Key × V)} (k : Key), RepKV G H kvs vs → (kvs.any fun kv => decide (kv.1 = kD k)) = (vs.any fun kv => decide (kv.1 = k))
  | _, _, _, .nil => rfl
  | _, _, k, .int (i := i) a b => by
    simp only [List.any_cons, any_kv k b]
    congr 1
    by_cases e : (Sum.inl i : Key) = k
    · subst e; simp [kD]
    · have e' : ¬ D.int i = kD k := fun z => e (kD_inj (k := .inl i) z)
      simp [e, e']
  | _, _, k, .str (x := i) a b => by
    simp only [List.any_cons, any_kv k b]
    congr 1
    by_cases e : (Sum.inr i : Key) = k
    · subst e; simp [kD]
    · have e' : ¬ D.str i = kD k := fun z => e (kD_inj (k := .inr i) z)
      simp [e, e']
theorem any_kt : ∀ {kvs : List (D × D)} {vs : List (List Key × V)} (k : List Key), RepKT G H kvs vs → (kvs.any fun kv => decide (kv.1 = .key (k.map kD))) = (vs.any fun kv => decide (kv.1 = k))
  | _, _, _, .nil => rfl
  | _, _, k, .cons (ks := i) a b => by
    simp only [List.any_cons, any_kt k b]
    congr 1
    by_cases e : i = k
    · subst e; simp
    · have e' : ¬ D.key (i.map kD) = D.key (k.map kD) := fun z => e (kDs_inj (D.key.inj z))
      simp only [decide_eq_false e', decide_eq_false e]
theorem map_kv {d : D} {v : V} (k : Key) (r : RepV G H d v) : ∀ {kvs : List (D × D)} {vs : List (Key × V)}, RepKV G H kvs vs → RepKV G H (kvs.map fun kv => if kv.1 = kD k then (kv.1, d) else kv) (vs.map fun kv => if kv.1 = k then (kv.1, v) else kv)
  | _, _, .nil => .nil
  | _, _, .int (i := i) a b => by
    simp only [List.map_cons]
    by_cases e : (Sum.inl i : Key) = k
    · have e' : D.int i = kD k := by rw [← e]; rfl
      rw [if_pos e, if_pos e']; exact .int r (map_kv k r b)
    · have e' : ¬ D.int i = kD k := fun z => e (kD_inj (k := .inl i) z)
      rw [if_neg e, if_neg e']; exact .int a (map_kv k r b)
  | _, _, .str (x := i) a b => by
    simp only [List.map_cons]
    by_cases e : (Sum.inr i : Key) = k
    · have e' : D.str i = kD k := by rw [← e]; rfl
      rw [if_pos e, if_pos e']; exact .str r (map_kv k r b)
    · have e' : ¬ D.str i = kD k := fun z => e (kD_inj (k := .inr i) z)
      rw [if_neg e, if_neg e']; exact .str a (map_kv k r b)
theorem map_kt {d : D} {v : V} (k : List Key) (r : RepV G H d v) : ∀ {kvs : List (D × D)} {vs : List (List Key × V)}, RepKT G H kvs vs → RepKT G H (kvs.map fun kv => if kv.1 = .key (k.map kD) then (kv.1, d) else kv) (vs.map fun kv => if kv.1 = k then (kv.1, v) else kv)
  | _, _, .nil => .nil
  | _, _, .cons (ks := i) a b => by
    simp only [List.map_cons]
    by_cases e : i = k
    · have e' : D.key (i.map kD) = D.key (k.map kD) := by rw [e]
      rw [if_pos e, if_pos e']; exact .cons r (map_kt k r b)
    · have e' : ¬ D.key (i.map kD) = D.key (k.map kD) := fun z => e (kDs_inj (D.key.inj z))
      rw [if_neg e, if_neg e']; exact .cons a (map_kt k r b)
theorem snoc_kv {d : D} {v : V} (k : Key) (r : RepV G H d v) : ∀ {kvs : List (D × D)} {vs : List (Key × V)}, RepKV G H kvs vs → RepKV G H (kvs ++ [(kD k, d)]) (vs ++ [(k, v)])
  | _, _, .nil => by cases k <;> (unfold kD; first | exact .int r .nil | exact .str r .nil)
  | _, _, .int a b => .int a (snoc_kv k r b)
  | _, _, .str a b => .str a (snoc_kv k r b)
theorem snoc_kt {d : D} {v : V} (k : List Key) (r : RepV G H d v) : ∀ {kvs : List (D × D)} {vs : List (List Key × V)}, RepKT G H kvs vs → RepKT G H (kvs ++ [(.key (k.map kD), d)]) (vs ++ [(k, v)])
  | _, _, .nil => .cons r .nil
  | _, _, .cons a b => .cons a (snoc_kt k r b)
theorem put_kv {d : D} {v : V} (k : Key) (r : RepV G H d v) {kvs : List (D × D)} {vs : List (Key × V)} (h : RepKV G H kvs vs) : RepKV G H (putD kvs (kD k) d) (putK vs k v) := by
  unfold putD putK
  rw [any_kv k h]
  split
  · exact map_kv k r h
  · exact snoc_kv k r h
theorem put_kt {d : D} {v : V} (k : List Key) (r : RepV G H d v) {kvs : List (D × D)} {vs : List (List Key × V)} (h : RepKT G H kvs vs) : RepKT G H (putD kvs (.key (k.map kD)) d) (putK vs k v) := by
  unfold putD putK
  rw [any_kt k h]
  split
  · exact map_kt k r h
  · exact snoc_kt k r h
theorem RepKV.length : ∀ {kvs : List (D × D)} {vs : List (Key × V)}, RepKV G H kvs vs → kvs.length = vs.length
  | _, _, .nil => rfl
  | _, _, .int _ b => by simp [RepKV.length b]
  | _, _, .str _ b => by simp [RepKV.length b]
theorem RepKT.length : ∀ {kvs : List (D × D)} {vs : List (List Key × V)}, RepKT G H kvs vs → kvs.length = vs.length
  | _, _, .nil => rfl
  | _, _, .cons _ b => by simp [RepKT.length b]
theorem key_cases {t : Bool} {x : D} (h : isKey t x = true) : (t = false ∧ ∃ k, x = kD k) ∨ (t = true ∧ ∃ ks : List Key, x = .key (ks.map kD)) := by
  cases t with
  | false =>
    refine .inl ⟨rfl, ?_⟩
    cases x <;> simp [isKey] at h
    · exact ⟨.inl _, rfl⟩
    · exact ⟨.inr _, rfl⟩
  | true =>
    refine .inr ⟨rfl, ?_⟩
    cases x <;> simp only [isKey, Bool.false_eq_true] at h
    obtain ⟨ks, e⟩ := keys0_of h
    exact ⟨ks, by rw [e]⟩
/-- a dict is asked -/
theorem dget_of {a : Nat} {t : Bool} {kvs : List (D × D)} {x : D} {v : V} (rS : RepS G S H) (e : S a = some (.dct t kvs)) (hk : isKey t x = true) (r : RepV G H x v) :
    ∃ o, DGet H a v o ∧ OptRep G H (lookD kvs x) o := by
  rcases key_cases hk with ⟨rfl, k, rfl⟩ | ⟨rfl, ks, rfl⟩
  · obtain ⟨vs, h1, h2⟩ := (show ∃ vs, H a = some (.dK vs) ∧ RepKV G H kvs vs from rS a _ e)
    rw [kD_V r]
    exact ⟨_, DGet.k h1, look_kv k h2⟩
  · obtain ⟨vs, h1, h2⟩ := (show ∃ vs, H a = some (.dT vs) ∧ RepKT G H kvs vs from rS a _ e)
    obtain ⟨p, us, rfl, h3, h4⟩ := r.sqK
    rw [kDs_V h4] at h3
    exact ⟨_, DGet.t h1 h3, look_kt ks h2⟩
theorem dput_of {a : Nat} {t : Bool} {kvs : List (D × D)} {x d : D} {v u : V} (rS : RepS G S H) (e : S a = some (.dct t kvs)) (hk : isKey t x = true) (hz : kvs.length < sizeLine) (r : RepV G H x v) (q : RepV G H d u) :
    ∃ H', DPut H a v u H' ∧ RepS G (S.put a (.dct t (putD kvs x d))) H' ∧ TExt H H' := by
  have nt : ∀ o, TExt H (upd H a o) := fun o => TExt.write (rS.notup e)
  rcases key_cases hk with ⟨rfl, k, rfl⟩ | ⟨rfl, ks, rfl⟩
  · obtain ⟨vs, h1, h2⟩ := (show ∃ vs, H a = some (.dK vs) ∧ RepKV G H kvs vs from rS a _ e)
    rw [kD_V r]
    exact ⟨_, .inl ⟨vs, k, h1, rfl, by rw [← h2.length]; exact hz, rfl⟩, rS.write e ⟨_, upd_same, (put_kv k q h2).mono (nt _)⟩, nt _⟩
  · obtain ⟨vs, h1, h2⟩ := (show ∃ vs, H a = some (.dT vs) ∧ RepKT G H kvs vs from rS a _ e)
    obtain ⟨p, us, rfl, h3, h4⟩ := r.sqK
    rw [kDs_V h4] at h3
    exact ⟨_, .inr ⟨vs, ks, p, h1, rfl, h3, by rw [← h2.length]; exact hz, rfl⟩, rS.write e ⟨_, upd_same, (put_kt ks q h2).mono (nt _)⟩, nt _⟩
theorem isD_of {a : Nat} {t : Bool} {kvs : List (D × D)} (rS : RepS G S H) (e : S a = some (.dct t kvs)) : IsD H a := by
  cases t
  · obtain ⟨vs, h1, h2⟩ := (show ∃ vs, H a = some (.dK vs) ∧ RepKV G H kvs vs from rS a _ e)
    exact .inl ⟨vs, .inl h1⟩
  · obtain ⟨vs, h1, h2⟩ := (show ∃ vs, H a = some (.dT vs) ∧ RepKT G H kvs vs from rS a _ e)
    exact .inr ⟨vs, .inl h1⟩
end
/-! ### dicts alike -/
def Hits {κ : Type} [DecidableEq κ] (K : PySem.W.Frag) (H : Hp) (kb : List (κ × V)) : List (κ × V) → Bool → Prop
  | [], r => r = true
  | (k, v) :: l, r => (valV kb k = none ∧ r = false) ∨ ∃ y d e b, valV kb k = some y ∧ Dp K H v d ∧ Dp K H y e ∧ d.plain = true ∧ e.plain = true ∧ d.depth ≤ 180 ∧ Hits K H kb l b ∧ r = (PyData.eqv d e && b)
section
variable {H : Hp} {S : Sto}
theorem hits_step (rS : RepS G S H) {kb ds : List (D × D)} {vb vs : List (Key × V)} (rb : RepKV G H kb vb) (k : Key) {d : D} {v : V} {r : Bool} (a : RepV G H d v) (e : dctEq S kb ((kD k, d) :: ds) = some r)
    (ih : ∀ r, dctEq S kb ds = some r → Hits G.K H vb vs r) : Hits G.K H vb ((k, v) :: vs) r := by
  have lk := look_kv k rb
  unfold dctEq at e
  cases e1 : lookD kb (kD k) with
  | none =>
    rw [e1] at e lk
    cases e2 : valV vb k with
    | none => exact .inl ⟨e2, (Option.some.inj e).symm⟩
    | some _ => rw [e2] at lk; exact lk.elim
  | some u =>
    rw [e1] at e lk
    cases e2 : valV vb k with
    | none => rw [e2] at lk; exact lk.elim
    | some y =>
      rw [e2] at lk
      replace lk : RepV G H u y := lk
      dsimp only at e
      split at e
      · rename_i d1 e1' b1 h1 h2 h3
        split at e
        · rename_i z
          cases e
          exact .inr ⟨y, d1, e1', b1, e2, dp_v rS a h1, dp_v rS lk h2, plain_v h1, plain_v h2, z, ih _ h3, rfl⟩
        · cases e
      · cases e
theorem hits_stepT (rS : RepS G S H) {kb ds : List (D × D)} {vb vs : List (List Key × V)} (rb : RepKT G H kb vb) (k : List Key) {d : D} {v : V} {r : Bool} (a : RepV G H d v) (e : dctEq S kb ((.key (k.map kD), d) :: ds) = some r)
    (ih : ∀ r, dctEq S kb ds = some r → Hits G.K H vb vs r) : Hits G.K H vb ((k, v) :: vs) r := by
  have lk := look_kt k rb
  unfold dctEq at e
  cases e1 : lookD kb (.key (k.map kD)) with
  | none =>
    rw [e1] at e lk
    cases e2 : valV vb k with
    | none => exact .inl ⟨e2, (Option.some.inj e).symm⟩
    | some _ => rw [e2] at lk; exact lk.elim
  | some u =>
    rw [e1] at e lk
    cases e2 : valV vb k with
    | none => rw [e2] at lk; exact lk.elim
    | some y =>
      rw [e2] at lk
      replace lk : RepV G H u y := lk
      dsimp only at e
      split at e
      · rename_i d1 e1' b1 h1 h2 h3
        split at e
        · rename_i z
          cases e
          exact .inr ⟨y, d1, e1', b1, e2, dp_v rS a h1, dp_v rS lk h2, plain_v h1, plain_v h2, z, ih _ h3, rfl⟩
        · cases e
      · cases e
theorem hits_repT (rS : RepS G S H) {kb : List (D × D)} {vb : List (List Key × V)} (rb : RepKT G H kb vb) : ∀ {ka : List (D × D)} {va : List (List Key × V)}, RepKT G H ka va → ∀ {r : Bool}, dctEq S kb ka = some r → Hits G.K H vb va r
  | _, _, .nil, r, e => by cases e; exact rfl
  | _, _, .cons (ks := ks) a b, r, e => hits_stepT rS rb ks a e fun r e => hits_repT rS rb b e
theorem hits_rep (rS : RepS G S H) {kb : List (D × D)} {vb : List (Key × V)} (rb : RepKV G H kb vb) : ∀ {ka : List (D × D)} {va : List (Key × V)}, RepKV G H ka va → ∀ {r : Bool}, dctEq S kb ka = some r → Hits G.K H vb va r
  | _, _, .nil, r, e => by cases e; exact rfl
  | _, _, .int (i := i) a b, r, e => hits_step rS rb (.inl i) a e fun r e => hits_rep rS rb b e
  | _, _, .str (x := i) a b, r, e => hits_step rS rb (.inr i) a e fun r e => hits_rep rS rb b e
end
theorem hits_at {pins : List (Addr × Obj)} {σ : L2.St} {H : Hp} {s : Shared} (I : Inv X pins σ H s) (hu : X.A.units + 182 < cLine) {kb : List (Key × V)} {vb : List (Key × Value)} (rb : KV kb vb) : ∀ {ka : List (Key × V)} {va : List (Key × Value)}, KV ka va → ∀ {r : Bool}, Hits X.K H kb ka r → PySem.W.KeqHits X.A.in1 s vb va r
  | _, _, .nil, r, h => by rw [show r = true from h]; exact .nil
  | _, _, .cons (a := p) (b := q) hh t, r, h => by
    obtain ⟨k, v⟩ := p
    obtain ⟨k', u⟩ := q
    obtain ⟨h1, h2⟩ := hh
    replace h1 : k = k' := h1
    subst h1
    have hv := rb.val k
    rcases h with ⟨e, rfl⟩ | ⟨y, d, e, b, ey, hd, he, pd, pe, z, hl, rfl⟩
    · rw [e] at hv
      cases e2 : valueAt vb k with
      | none => exact .miss e2
      | some _ => rw [e2] at hv; exact hv.elim
    · rw [ey] at hv
      cases e2 : valueAt vb k with
      | none => rw [e2] at hv; exact hv.elim
      | some y' =>
        rw [e2] at hv
        obtain ⟨as, r1⟩ := Dp.reads I d v u hd h2
        obtain ⟨bs, r2⟩ := Dp.reads I e y y' he hv
        refine .hit e2 (SeqAt.eqAt_plain d e _ s u y' as bs r1 r2 pd pe ?_) (hits_at I hu rb t hl)
        show X.A.units + 1 + _ < _
        omega
def rEqD (neg : Bool) : R2 := fun x y H Q => ∃ (K : PySem.W.Frag) (a b : Addr) (ka kb : List (Key × V)) (r : Bool), K = X.K ∧ x = .ref a ∧ y = .ref b ∧ H a = some (.dK ka) ∧ H b = some (.dK kb) ∧ Hits K H kb ka r ∧ Q (.bl (if neg = true then !(ka.length == kb.length && r) else ka.length == kb.length && r)) H
theorem op_eqD2 (neg : Bool) (hu : X.A.units + 182 < cLine) : OpR X (compareOp (if neg = true then .NotEq else .Eq)) (rEqD (X := X) neg) := by
  intro pins s σ H x y v u Q I rx ry hr
  obtain ⟨K, a, b, ka, kb, r, rfl, rfl, rfl, ha, hb, hh, q⟩ := hr
  cases rx; cases ry
  obtain ⟨z1, sa, va, rva, da⟩ := dk_of I.hok ha
  obtain ⟨z2, sb, vb, rvb, db⟩ := dk_of I.hok hb
  have e1 : va.length = ka.length := (Paired.length rva).symm
  have e2 : vb.length = kb.length := (Paired.length rvb).symm
  cases neg
  · exact PySem.W.keq_eq sa sb da db (by omega) (fun _ => hits_at I hu rvb rva hh) ⟨.bl _, H, I, rfl, by rw [e1, e2]; exact q⟩
  · exact PySem.W.keq_ne sa sb da db (by omega) (fun _ => hits_at I hu rvb rva hh) ⟨.bl _, H, I, rfl, by rw [e1, e2]; exact q⟩
theorem hits_atT {pins : List (Addr × Obj)} {σ : L2.St} {H : Hp} {s : Shared} (I : Inv X pins σ H s) (hu : X.A.units + 182 < cLine) {kb : List (List Key × V)} {vb : List (List Key × Addr × Value)} (rb : L2.KT H kb vb) : ∀ {ka : List (List Key × V)} {va : List (List Key × Addr × Value)}, L2.KT H ka va → ∀ {r : Bool}, Hits X.K H kb ka r → KeqHitsH X.A.in1 s vb va r
  | _, _, .nil, r, h => by rw [show r = true from h]; exact .nil
  | _, _, .cons (a := p) (b := q) hh t, r, h => by
    obtain ⟨k, v⟩ := p
    obtain ⟨k', u⟩ := q
    obtain ⟨h1, _, h2⟩ := hh
    replace h1 : k = k' := h1
    subst h1
    have hv := rb.val k
    rcases h with ⟨e, rfl⟩ | ⟨y, d, e, b, ey, hd, he, pd, pe, z, hl, rfl⟩
    · rw [e] at hv
      cases e2 : atKey vb k with
      | none => exact .miss e2
      | some _ => rw [e2] at hv; exact hv.elim
    · rw [ey] at hv
      cases e2 : atKey vb k with
      | none => rw [e2] at hv; exact hv.elim
      | some y' =>
        rw [e2] at hv
        obtain ⟨as, r1⟩ := Dp.reads I d v u.2 hd h2
        obtain ⟨bs, r2⟩ := Dp.reads I e y y'.2 he hv
        refine .hit e2 (SeqAt.eqAt_plain d e _ s u.2 y'.2 as bs r1 r2 pd pe ?_) (hits_atT I hu rb t hl)
        show X.A.units + 1 + _ < _
        omega
def rEqDT (neg : Bool) : R2 := fun x y H Q => ∃ (K : PySem.W.Frag) (a b : Addr) (ka kb : List (List Key × V)) (r : Bool), K = X.K ∧ x = .ref a ∧ y = .ref b ∧ H a = some (.dT ka) ∧ H b = some (.dT kb) ∧ Hits K H kb ka r ∧ Q (.bl (if neg = true then !(ka.length == kb.length && r) else ka.length == kb.length && r)) H
theorem op_eqDT2 (neg : Bool) (hu : X.A.units + 182 < cLine) : OpR X (compareOp (if neg = true then .NotEq else .Eq)) (rEqDT (X := X) neg) := by
  intro pins s σ H x y v u Q I rx ry hr
  obtain ⟨K, a, b, ka, kb, r, rfl, rfl, rfl, ha, hb, hh, q⟩ := hr
  cases rx; cases ry
  obtain ⟨z1, sa, va, rva, da⟩ := dt_of I.hok ha
  obtain ⟨z2, sb, vb, rvb, db⟩ := dt_of I.hok hb
  have e1 : va.length = ka.length := (Paired.length rva).symm
  have e2 : vb.length = kb.length := (Paired.length rvb).symm
  cases neg
  · exact keqT_eq (tupleKind_room_in1 (by omega)) sa sb da db (by omega) (fun _ => hits_atT I hu rvb rva hh) ⟨.bl _, H, I, rfl, by rw [e1, e2]; exact q⟩
  · exact keqT_ne (tupleKind_room_in1 (by omega)) sa sb da db (by omega) (fun _ => hits_atT I hu rvb rva hh) ⟨.bl _, H, I, rfl, by rw [e1, e2]; exact q⟩
def rLtP (K : PySem.W.Frag) : R2 := fun x y H Q => ∃ d e, Dp K H x d ∧ Dp K H y e ∧ PySem.W.alike d e = true ∧ d ≠ .none ∧ (d.depth ≤ 64 ∨ e.depth ≤ 64) ∧ Q (.bl (PySem.W.dataLt d e)) H
theorem op_ltP (hu : X.A.units + 64 < cLine) : OpR X (compareOp .Lt) (rLtP X.K) := by
  intro pins s σ H x y v u Q I rx ry ⟨d, e, hd, he, sd, se, z, q⟩
  obtain ⟨as, r1⟩ := Dp.reads I d x v hd rx
  obtain ⟨bs, r2⟩ := Dp.reads I e y u he ry
  exact PySem.W.lt_data r1 r2 sd se (by omega) ⟨.bl _, H, I, rfl, q⟩
theorem op_gtP (hu : X.A.units + 64 < cLine) : OpR X (compareOp .Gt) (fun x y => rLtP X.K y x) := by
  intro pins s σ H x y v u Q I rx ry ⟨d, e, hd, he, sd, se, z, q⟩
  obtain ⟨as, r1⟩ := Dp.reads I d y u hd ry
  obtain ⟨bs, r2⟩ := Dp.reads I e x v he rx
  exact PySem.W.gt_data r2 r1 (by rw [PySem.W.alike_comm]; exact sd) (PySem.W.ne_none_both sd se) (by omega) ⟨.bl _, H, I, rfl, q⟩
theorem ltP_of {x y : D} {v u : V} {H : Hp} {S : Sto} {Q0 : Bool → Prop} {Q : VK} (rS : RepS G S H) (rx : RepV G H x v) (ry : RepV G H y u) (h : ltDM x y S Q0) (c : ∀ b, Q0 b → Q (.bl b) H) : rLtP G.K v u H Q := by
  unfold ltDM at h
  split at h
  · rename_i d e h1 h2
    exact ⟨d, e, dp_v rS rx h1, dp_v rS ry h2, h.1.1, h.1.2.1, h.1.2.2, c _ h.2⟩
  · exact h.elim
/-! ### == of tuples and lists that hold dicts -/
section
open PySem.SeqAt (EqIn rcIn_lists rcIn_tuples EqAt)
open AutoSeq1 (wpAny_loadPart')
open MeetsSeq MeetsSeq2 MeetsSeq3
theorem tupleNeIn {prog : Program} {w : World} (l b : Addr) (us ys : Array Value) (n n2 : Nat) (dd dd2 : Option Addr) (sl sl2 : Array (Option Value)) (hsz : us.size = ys.size) (e : Nat → Bool) :
    MeetsIn prog w (Builtin.«tuple.__ne__» ⟨[.ref l, .ref b], []⟩)
      (fun A R s => s.heap.get? l = some { cls := .type "tuple", dict := dd, data := .seq us n, slots := sl } ∧ s.heap.get? b = some { cls := .type "tuple", dict := dd2, data := .seq ys n2, slots := sl2 } ∧
        (∀ j (h1 : j < us.size) (h2 : j < ys.size), EqIn prog w A.in1 s us[j] ys[j] (e j)) ∧ R (.ok (.ret (.bool (!(List.range us.size).all e)))) s) :=
  .of_wp fun A R s h => by
    obtain ⟨hp, g, d, tk, os⟩ := s
    obtain ⟨hl, hb, he, h⟩ := h
    have f2 := AutoSeq1.sub_tuple_tuple
    have hZ : (us.toList.zip ys.toList).length = us.size := by simp [hsz]
    have hbz : (us.size == ys.size) = true := by simp [hsz]
    wp_walk using wpAny_loadPart' hl, wpAny_loadPart' hb, wpAny_forIn_list _ (fun rest b s' => b.1 = none ∧ s' = ⟨hp, g, d, tk, os⟩ ∧ ∃ i, rest = (us.toList.zip ys.toList).drop i ∧ R (.ok (.ret (.bool (!((List.range us.size).drop i).all e)))) ⟨hp, g, d, tk, os⟩) _
    case turn =>
      rintro ⟨y, x⟩ rest b s' ⟨hb', rfl, i, hz, hR⟩
      have hlt : i < (us.toList.zip ys.toList).length := by
        rcases Nat.lt_or_ge i (us.toList.zip ys.toList).length with h' | h'
        · exact h'
        · rw [List.drop_of_length_le h'] at hz; cases hz
      have h1 : i < us.size := hZ ▸ hlt
      have h2 : i < ys.size := hsz ▸ h1
      rw [List.drop_eq_getElem_cons hlt] at hz
      injection hz with hyx hrest
      have hy : y = us[i] := by have := congrArg Prod.fst hyx; simpa using this
      have hx : x = ys[i] := by have := congrArg Prod.snd hyx; simpa using this
      subst hy hx
      have hd : (List.range us.size).drop i = i :: (List.range us.size).drop (i + 1) := by simp [List.drop_eq_getElem_cons, h1]
      rw [hd, List.all_cons] at hR
      refine wpAny_bind (he i h1 h2 _ _ ?_)
      cases hy : e i with
      | true =>
        rw [hy] at hR
        wp_walk
        exact ⟨rfl, rfl, i + 1, hrest, by simpa using hR⟩
      | false =>
        rw [hy] at hR
        wp_walk
        exact ⟨_, rfl, by simpa using hR⟩
    case fin =>
      rintro ⟨b1, b2⟩ s' ⟨hb', rfl, i, hz, hR⟩
      simp only at hb'
      subst hb'
      have hge : us.size ≤ i := by
        rcases Nat.lt_or_ge i (us.toList.zip ys.toList).length with h' | h'
        · rw [List.drop_eq_getElem_cons h'] at hz; cases hz
        · exact hZ ▸ h'
      rw [List.drop_of_length_le (by simpa using hge)] at hR
      wp_walk
      exact ⟨_, rfl, by simpa [Builtin.Tuple.tupleCompareSizes, bne, hsz] using hR⟩
    case h =>
      exact ⟨rfl, rfl, 0, rfl, by simpa using h⟩
theorem neIn_tuples {prog : Program} {w : World} {A : Around} {s : Shared} {E : Value → Shared → Prop} {l b : Addr} {us ys : Array Value} {e : Nat → Bool} {Q : Value → Shared → Prop} (hl : s.heap.IsTuple l us) (hb : s.heap.IsTuple b ys) (hu : A.units < cLine) (hsz : us.size = ys.size)
    (he : ∀ j (h1 : j < us.size) (h2 : j < ys.size), EqIn prog w A.in1 s us[j] ys[j] (e j)) (h : Q (.bool (!(List.range us.size).all e)) s) :
    wpAny (model prog w) A (compareOp .NotEq (.ref l) (.ref b)) Q E s := by
  obtain ⟨⟨cls, dd, data, sl⟩, ho, hc, n, hd⟩ := id hl
  obtain ⟨⟨cls2, dd2, data2, sl2⟩, ho2, hc2, n2, hd2⟩ := id hb
  simp only at hc hd hc2 hd2
  subst hc hd hc2 hd2
  exact wpAny_richCompare_same_room (T := "tuple") (op := .NotEq) ⟨_, ho, rfl⟩ ⟨_, ho2, rfl⟩ F.slot_tuple_ne (call_meetsIn F.slot_tuple_ne ⟨_, ho, rfl⟩ F.entry_tuple_ne (F.args_tuple_ne_2 _ _) (tupleNeIn l b us ys n n2 dd dd2 sl sl2 hsz e)
    ⟨ho, ho2, he, show Value.bool (!(List.range us.size).all e) ≠ Value.notImplemented ∧ Q (.bool (!(List.range us.size).all e)) s from ⟨(fun x => nomatch x), h⟩⟩) hu
theorem hits_atA {A : Around} {pins : List (Addr × Obj)} {σ : L2.St} {H : Hp} {s : Shared} (I : Inv X pins σ H s) (hu : A.units + 182 < cLine) {kb : List (Key × V)} {vb : List (Key × Value)} (rb : KV kb vb) : ∀ {ka : List (Key × V)} {va : List (Key × Value)}, KV ka va → ∀ {r : Bool}, Hits X.K H kb ka r → PySem.W.KeqHits A.in1 s vb va r
  | _, _, .nil, r, h => by rw [show r = true from h]; exact .nil
  | _, _, .cons (a := p) (b := q) hh t, r, h => by
    obtain ⟨k, v⟩ := p
    obtain ⟨k', u⟩ := q
    obtain ⟨h1, h2⟩ := hh
    replace h1 : k = k' := h1
    subst h1
    have hv := rb.val k
    rcases h with ⟨e, rfl⟩ | ⟨y, d, e, b, ey, hd, he, pd, pe, z, hl, rfl⟩
    · rw [e] at hv
      cases e2 : valueAt vb k with
      | none => exact .miss e2
      | some _ => rw [e2] at hv; exact hv.elim
    · rw [ey] at hv
      cases e2 : valueAt vb k with
      | none => rw [e2] at hv; exact hv.elim
      | some y' =>
        rw [e2] at hv
        obtain ⟨as, r1⟩ := Dp.reads I d v u hd h2
        obtain ⟨bs, r2⟩ := Dp.reads I e y y' he hv
        refine .hit e2 (SeqAt.eqAt_plain d e _ s u y' as bs r1 r2 pd pe ?_) (hits_atA I hu rb t hl)
        show A.units + 1 + _ < _
        omega
theorem teqs_inv {f : D → D → Option Bool} : ∀ {xs ys : List D} {r : Bool}, teqs f xs ys = some r → xs.length = ys.length ∧ ∃ e : Nat → Bool, (∀ (j : Nat) x y, xs[j]? = some x → ys[j]? = some y → f x y = some (e j)) ∧ r = (List.range xs.length).all e
  | [], [], r, h => by cases h; exact ⟨rfl, fun _ => true, fun j x y h => (by simp at h), rfl⟩
  | [], _ :: _, r, h => by cases h
  | _ :: _, [], r, h => by cases h
  | x :: xs, y :: ys, r, h => by
    unfold teqs at h
    split at h
    · rename_i a b h1 h2
      cases h
      obtain ⟨e1, e, e2, e3⟩ := teqs_inv h2
      refine ⟨by simp [e1], fun j => match j with | 0 => a | j + 1 => e j, fun j u v hu hv => ?_, ?_⟩
      · cases j with
        | zero => cases hu; cases hv; exact h1
        | succ j => exact e2 j u v (by simpa using hu) (by simpa using hv)
      · rw [List.length_cons, List.range_succ_eq_map, List.all_cons, List.all_map, e3]; rfl
    · cases h
section
variable {pins : List (Addr × Obj)} {σ : L2.St} {H : Hp} {s : Shared} {S : Sto}
theorem teq_same (I : Inv X pins σ H s) (rS : RepS G S H) (hK : G.K = X.K) : ∀ (n : Nat) {x y : D} {v : V} {u : Value} {r : Bool}, teq S n x y = some r → RepV G H x v → RepV G H y v → RelV v u → r = true
  | 0, _, _, _, _, _, h, _, _, _ => by cases h
  | n + 1, x, y, v, u, r, h, rx, ry, rv => by
    unfold teq at h
    split at h
    · rename_i d e h1 h2
      split at h
      · cases h
        obtain ⟨as, q1⟩ := Dp.reads I d v u (hK ▸ dp_v rS rx h1) rv
        obtain ⟨bs, q2⟩ := Dp.reads I e v u (hK ▸ dp_v rS ry h2) rv
        have := (PyProof.Rows.reads_det (fun _ _ h _ => h) q1 q2).1
        subst this
        exact PySem.SeqAt.eqv_refl_plain _ (plain_v h1)
      · cases h
    · split at h
      · cases rx; cases ry
        rw [if_pos rfl] at h; cases h
      · rename_i xs ys _
        obtain ⟨p, o, vs, rfl, h1, _, r1⟩ := rx.sqT
        obtain ⟨p', o', vs', e, h2, _, r2⟩ := ry.sqT
        cases e
        rw [h1] at h2; cases h2
        obtain ⟨its, rr, _, _⟩ := I.tuple (X := X) (.inl (.inr ⟨o, h1⟩) : SqT X.K H p vs)
        obtain ⟨hl, e, he, rfl⟩ := teqs_inv h
        rw [List.all_eq_true]
        intro j hj
        have hj : j < xs.length := by simpa using hj
        obtain ⟨w, w1, w2⟩ := r1.get (List.getElem?_eq_getElem hj)
        obtain ⟨w', w3, w4⟩ := r2.get (List.getElem?_eq_getElem (show j < ys.length by omega))
        rw [w1] at w3; cases w3
        obtain ⟨u', u1, u2⟩ := Vals.get rr w1
        exact teq_same I rS hK n (he j _ _ (List.getElem?_eq_getElem hj) (List.getElem?_eq_getElem (by omega))) w2 w4 u2
      · cases h
theorem teq_in (I : Inv X pins σ H s) (rS : RepS G S H) (hK : G.K = X.K) : ∀ (n : Nat) {x y : D} {v u : V} {v' u' : Value} {r : Bool}, teq S n x y = some r → RepV G H x v → RepV G H y u → RelV v v' → RelV u u' → ∀ A : Around, A.units + 182 + n < cLine → EqIn X.prog X.w A s v' u' r
  | 0, _, _, _, _, _, _, _, h, _, _, _, _ => by cases h
  | n + 1, x, y, v, u, v', u', r, h, rx, ry, rv, ru => fun A hA => by
    have h0 := h
    unfold teq at h
    split at h
    · rename_i d e h1 h2
      split at h
      · rename_i hz
        cases h
        obtain ⟨as, q1⟩ := Dp.reads I d v v' (hK ▸ dp_v rS rx h1) rv
        obtain ⟨bs, q2⟩ := Dp.reads I e u u' (hK ▸ dp_v rS ry h2) ru
        exact (SeqAt.eqAt_plain d e A s v' u' as bs q1 q2 (plain_v h1) (plain_v h2) (by omega)).inModel _ _
      · cases h
    · split at h
      · rename_i a b _
        split at h
        · cases h
        · rename_i hne
          cases rx; cases ry
          cases rv; cases ru
          split at h
          · rename_i ka kb ea eb
            obtain ⟨r', er, rfl⟩ := Option.map_eq_some_iff.mp h
            obtain ⟨va, h1, h2⟩ := (show ∃ vs, H a = some (.dK vs) ∧ RepKV G H ka vs from rS a _ ea)
            obtain ⟨vb, h3, h4⟩ := (show ∃ vs, H b = some (.dK vs) ∧ RepKV G H kb vs from rS b _ eb)
            obtain ⟨z1, sa, wa, rva, da⟩ := dk_of I.hok h1
            obtain ⟨z2, sb, wb, rvb, db⟩ := dk_of I.hok h3
            refine EqIn.of_refs hne fun E Q hq => PySem.W.keq_eq sa sb da db (by omega) (fun _ => hits_atA I (by omega) rvb rva (hK ▸ hits_rep rS h4 h2 er)) ?_
            rw [show wa.length = va.length from (Paired.length rva).symm, show wb.length = vb.length from (Paired.length rvb).symm, ← h2.length, ← h4.length]
            exact hq
          · rename_i xs ys ea eb
            obtain ⟨va, h1, w1⟩ := rS.lst ea
            obtain ⟨vb, h3, w3⟩ := rS.lst eb
            obtain ⟨its, r1, p1, _⟩ := I.list (SqL.of h1)
            obtain ⟨its2, r2, p2, _⟩ := I.list (SqL.of h3)
            obtain ⟨hl, e, he, rfl⟩ := teqs_inv h
            have l1 : its.length = xs.length := by rw [← r1.length, ← w1.length]
            have l2 : its2.length = ys.length := by rw [← r2.length, ← w3.length]
            refine EqIn.of_refs hne fun E Q hq => rcIn_lists (e := e) p1.isList p2.isList (by simp [l1, l2, hl]) (by omega) (fun j j1 j2 => ?_) (by rw [List.size_toArray, l1]; exact hq)
            simp only [List.size_toArray] at j1 j2
            obtain ⟨v1, i1, i2⟩ := w1.get (List.getElem?_eq_getElem (show j < xs.length by omega))
            obtain ⟨v2, i3, i4⟩ := w3.get (List.getElem?_eq_getElem (show j < ys.length by omega))
            obtain ⟨u1, i5, i6⟩ := Vals.get r1 i1
            obtain ⟨u2, i7, i8⟩ := Vals.get r2 i3
            rw [List.getElem?_eq_getElem j1] at i5; cases i5
            rw [List.getElem?_eq_getElem j2] at i7; cases i7
            exact teq_in I rS hK n (he j _ _ (List.getElem?_eq_getElem _) (List.getElem?_eq_getElem _)) i2 i4 i6 i8 A.in1 (by show A.units + 1 + 182 + n < cLine; omega)
          · cases h
      · rename_i xs ys _
        obtain ⟨p, o, va, rfl, h1, _, w1⟩ := rx.sqT
        obtain ⟨p', o', vb, rfl, h3, _, w3⟩ := ry.sqT
        cases rv; cases ru
        obtain ⟨its, r1, p1, _⟩ := I.tuple (X := X) (.inl (.inr ⟨o, h1⟩) : SqT X.K H p va)
        obtain ⟨its2, r2, p2, _⟩ := I.tuple (X := X) (.inl (.inr ⟨o', h3⟩) : SqT X.K H p' vb)
        by_cases hne : p = p'
        · subst hne
          rw [teq_same I rS hK (n + 1) h0 rx ry rfl]
          exact (EqAt.same _).inModel _ _
        obtain ⟨hl, e, he, rfl⟩ := teqs_inv h
        have l1 : its.length = xs.length := by rw [← r1.length, ← w1.length]
        have l2 : its2.length = ys.length := by rw [← r2.length, ← w3.length]
        refine EqIn.of_refs hne fun E Q hq => rcIn_tuples (e := e) p1 p2 (by omega) (fun j j1 j2 => ?_) (by
          rw [List.size_toArray, List.size_toArray, l1, l2, ← hl, Nat.min_self, beq_self_eq_true, Bool.and_true]; exact hq)
        simp only [List.size_toArray] at j1 j2
        obtain ⟨v1, i1, i2⟩ := w1.get (List.getElem?_eq_getElem (show j < xs.length by omega))
        obtain ⟨v2, i3, i4⟩ := w3.get (List.getElem?_eq_getElem (show j < ys.length by omega))
        obtain ⟨u1, i5, i6⟩ := Vals.get r1 i1
        obtain ⟨u2, i7, i8⟩ := Vals.get r2 i3
        rw [List.getElem?_eq_getElem j1] at i5; cases i5
        rw [List.getElem?_eq_getElem j2] at i7; cases i7
        exact teq_in I rS hK n (he j _ _ (List.getElem?_eq_getElem _) (List.getElem?_eq_getElem _)) i2 i4 i6 i8 A.in1 (by show A.units + 1 + 182 + n < cLine; omega)
      · cases h
end
def rEqT (X : L2.Cx) (G : GI) (neg : Bool) : R2 := fun v u H Q => ∃ S xs ys r, RepS G S H ∧ RepV G H (.tup xs) v ∧ RepV G H (.tup ys) u ∧ teqs (teq S 8) xs ys = some r ∧ Q (.bl (if neg = true then !r else r)) H
theorem op_eqT (hK : G.K = X.K) (neg : Bool) (hu : X.A.units + 195 < cLine) : OpR X (compareOp (if neg = true then .NotEq else .Eq)) (rEqT X G neg) := by
  intro pins s σ H x y v u Q I rv ru ⟨S, xs, ys, r, rS, rx, ry, h, q⟩
  obtain ⟨p, o, va, rfl, h1, _, w1⟩ := rx.sqT
  obtain ⟨p', o', vb, rfl, h3, _, w3⟩ := ry.sqT
  cases rv; cases ru
  obtain ⟨its, r1, p1, _⟩ := I.tuple (X := X) (.inl (.inr ⟨o, h1⟩) : SqT X.K H p va)
  obtain ⟨its2, r2, p2, _⟩ := I.tuple (X := X) (.inl (.inr ⟨o', h3⟩) : SqT X.K H p' vb)
  obtain ⟨hl, e, he, rfl⟩ := teqs_inv h
  have l1 : its.length = xs.length := by rw [← r1.length, ← w1.length]
  have l2 : its2.length = ys.length := by rw [← r2.length, ← w3.length]
  have hit : ∀ j (h1 : j < its.toArray.size) (h2 : j < its2.toArray.size), EqIn X.prog X.w X.A.in1 s its.toArray[j] its2.toArray[j] (e j) := fun j j1 j2 => by
    simp only [List.size_toArray] at j1 j2
    obtain ⟨v1, i1, i2⟩ := w1.get (List.getElem?_eq_getElem (show j < xs.length by omega))
    obtain ⟨v2, i3, i4⟩ := w3.get (List.getElem?_eq_getElem (show j < ys.length by omega))
    obtain ⟨u1, i5, i6⟩ := Vals.get r1 i1
    obtain ⟨u2, i7, i8⟩ := Vals.get r2 i3
    rw [List.getElem?_eq_getElem j1] at i5; cases i5
    rw [List.getElem?_eq_getElem j2] at i7; cases i7
    exact teq_in I rS hK 8 (he j _ _ (List.getElem?_eq_getElem _) (List.getElem?_eq_getElem _)) i2 i4 i6 i8 X.A.in1 (by show X.A.units + 1 + 182 + 8 < cLine; omega)
  cases neg
  · refine rcIn_tuples (e := e) p1 p2 (by omega) hit ⟨.bl _, H, I, rfl, ?_⟩
    rw [List.size_toArray, List.size_toArray, l1, l2, ← hl, Nat.min_self, beq_self_eq_true, Bool.and_true]; exact q
  · refine neIn_tuples (e := e) p1 p2 (by omega) (by simp [l1, l2, hl]) hit ⟨.bl _, H, I, rfl, ?_⟩
    rw [List.size_toArray, l1]; exact q
end
/-! ### == and != -/
theorem eqDM_inv {x y : D} {S : Sto} {Q : Bool → Prop} (h : eqM.eqDM x y S Q) : (∃ t a b ka kb r, x = .ref a ∧ y = .ref b ∧ S a = some (.dct t ka) ∧ S b = some (.dct t kb) ∧ dctEq S kb ka = some r ∧ Q (ka.length == kb.length && r)) ∨ ∃ xs ys r, x = .tup xs ∧ y = .tup ys ∧ teqs (teq S 8) xs ys = some r ∧ Q r := by
  unfold eqM.eqDM at h
  split at h
  · split at h
    · rename_i ka kb ea eb
      split at h
      · rename_i r er
        exact .inl ⟨_, _, _, ka, kb, r, rfl, rfl, ea, eb, er, h⟩
      · exact h.elim
    · rename_i ka kb ea eb
      split at h
      · rename_i r er
        exact .inl ⟨_, _, _, ka, kb, r, rfl, rfl, ea, eb, er, h⟩
      · exact h.elim
    · exact h.elim
  · split at h
    · rename_i r er
      exact .inr ⟨_, _, r, rfl, rfl, er, h⟩
    · exact h.elim
  · exact h.elim
theorem rEq_of {x y : D} {v u : V} {H : Hp} {S : Sto} {Q0 : Bool → Prop} {Q : VK} (hK : X.K = G.K) (rS : RepS G S H) (rx : RepV G H x v) (ry : RepV G H y u) (h : eqM x y S Q0) (c : ∀ b, Q0 b → Q (.bl b) H) :
    rEq v u H Q ∨ rEqP G.K v u H Q ∨ rEqD (X := X) false v u H Q ∨ rEqDT (X := X) false v u H Q ∨ rEqT X G false v u H Q := by
  unfold eqM at h
  split at h
  all_goals first
    | (cases rx; cases ry; exact .inl (scal_eq rfl (c _ h) (by simp)))
    | skip
  split at h
  · rename_i d e h1 h2
    exact .inr (.inl ⟨d, e, dp_v rS rx h1, dp_v rS ry h2, plain_v h1, plain_v h2, h.1, c _ h.2⟩)
  · rcases eqDM_inv h with ⟨t, a, b, ka, kb, r, rfl, rfl, ea, eb, er, q⟩ | ⟨xs, ys, r, rfl, rfl, er, q⟩
    · cases rx; cases ry
      cases t
      · obtain ⟨va, h1, h2⟩ := (show ∃ vs, H a = some (.dK vs) ∧ RepKV G H ka vs from rS a _ ea)
        obtain ⟨vb, h3, h4⟩ := (show ∃ vs, H b = some (.dK vs) ∧ RepKV G H kb vs from rS b _ eb)
        exact .inr (.inr (.inl ⟨G.K, a, b, va, vb, r, hK.symm, rfl, rfl, h1, h3, hits_rep rS h4 h2 er, by
          have := c _ q
          rw [h2.length, h4.length] at this
          exact this⟩))
      · obtain ⟨va, h1, h2⟩ := (show ∃ vs, H a = some (.dT vs) ∧ RepKT G H ka vs from rS a _ ea)
        obtain ⟨vb, h3, h4⟩ := (show ∃ vs, H b = some (.dT vs) ∧ RepKT G H kb vs from rS b _ eb)
        exact .inr (.inr (.inr (.inl ⟨G.K, a, b, va, vb, r, hK.symm, rfl, rfl, h1, h3, hits_repT rS h4 h2 er, by
          have := c _ q
          rw [h2.length, h4.length] at this
          exact this⟩)))
    · exact .inr (.inr (.inr (.inr ⟨S, xs, ys, r, rS, rx, ry, er, c _ q⟩)))
theorem rNe_of {x y : D} {v u : V} {H : Hp} {S : Sto} {Q0 : Bool → Prop} {Q : VK} (hK : X.K = G.K) (rS : RepS G S H) (rx : RepV G H x v) (ry : RepV G H y u) (h : eqM x y S fun b => Q0 (!b)) (c : ∀ b, Q0 b → Q (.bl b) H) :
    rNe v u H Q ∨ rNeP G.K v u H Q ∨ rEqD (X := X) true v u H Q ∨ rEqDT (X := X) true v u H Q ∨ rEqT X G true v u H Q := by
  rcases rEq_of (X := X) (Q := fun z H => ∃ b, z = .bl b ∧ Q0 (!b)) hK rS rx ry h (fun b q => ⟨b, rfl, q⟩) with ⟨h1, b, h2, h3⟩ | ⟨d, e, h1, h2, h3, h4, hz, b, h5, h6⟩ | ⟨K, a, b, ka, kb, r, e1, e2, e3, e4, e5, e6, b', h5, h6⟩ | ⟨K, a, b, ka, kb, r, e1, e2, e3, e4, e5, e6, b', h5, h6⟩ | ⟨S', xs, ys, r, e1, e2, e3, e4, b, h5, h6⟩
  · cases h2; exact .inl ⟨h1, c _ h3⟩
  · cases h5; exact .inr (.inl ⟨d, e, h1, h2, h3, h4, hz, c _ h6⟩)
  · cases h5; exact .inr (.inr (.inl ⟨K, a, b, ka, kb, r, e1, e2, e3, e4, e5, e6, c _ h6⟩))
  · cases h5; exact .inr (.inr (.inr (.inl ⟨K, a, b, ka, kb, r, e1, e2, e3, e4, e5, e6, c _ h6⟩)))
  · cases h5; exact .inr (.inr (.inr (.inr ⟨S', xs, ys, r, e1, e2, e3, e4, c _ h6⟩)))
/-! ### the comparisons -/
theorem OptRep.isSome {H : Hp} {o : Option D} {u : Option V} (h : OptRep G H o u) : o.isSome = u.isSome := by
  cases o <;> cases u <;> first | rfl | exact h.elim
theorem memF_of {x : D} {ds : List D} {v : V} {p : Addr} {vs : List V} {H : Hp} {S : Sto} {Q0 : Bool → Prop} {Q : VK} {neg : Bool} (hl : SqL G.K H p vs ∨ SqT G.K H p vs) (rS : RepS G S H) (rx : RepV G H x v) (rs : RepVs G H ds vs)
    (h : memM.memF x ds S Q0) (c : ∀ b, Q0 b → Q (.bl (if neg = true then !b else b)) H) :
    rIn G.K neg v (.ref p) H Q ∨ rInP G.K neg v (.ref p) H Q := by
  unfold memM.memF at h
  split at h
  · rename_i hf
    rw [Bool.and_eq_true] at hf
    obtain ⟨i1, i2, i3⟩ := mem_flat rx hf.1 rs hf.2
    refine .inl ⟨p, vs, rfl, hl, i2, i3, ?_⟩
    rw [i1]
    have := c _ h
    cases neg <;> exact this
  · split at h
    · rename_i d es h1 h2
      refine .inr ⟨d, es, dp_v rS rx h1, ?_, plain_v h1, plains_of (plain_ref 16) h2, h.1, ?_⟩
      · rcases hl with hl | hl
        · exact .inl (.lst hl (dps_of (dp_ref rS 16) rs h2))
        · exact .inr (.tup hl (dps_of (dp_ref rS 16) rs h2))
      · have := c _ h.2
        cases neg <;> exact this
    · exact h.elim
theorem str_one {x : Str} {c : Nat} (h : x.cps.toList = [c]) : x = ⟨#[c]⟩ := by
  obtain ⟨l⟩ := x
  simp only at h
  congr 1
  exact Array.ext' (by simpa using h)
theorem op_mem (neg : Bool) (hu : X.A.units + 65 < cLine) : OpR X (compareOp (if neg = true then .NotIn else .In)) (liftC ⟨X.K, G.cls⟩ fun x y S Q => memM x y S fun b => Q (if neg = true then !b else b)) := by
  intro pins s σ H x y v u Q I r1 r2 ⟨d, e, S, Q1, rd, re, rS, q, c1⟩
  have c : ∀ b, (fun b => Q1 (if neg = true then !b else b)) b → Q (.bl (if neg = true then !b else b)) H := fun b q => c1 _ q
  replace q : memM d e S (fun b => Q1 (if neg = true then !b else b)) := q
  generalize (fun b => Q1 (if neg = true then !b else b)) = Q0 at q c
  have fromR : rIn X.K neg x y H Q → wpAny (model X.prog X.w) X.A (compareOp (if neg = true then .NotIn else .In) v u) (EP X pins σ Q) X.xe s := fun z => by
    cases neg
    · exact op_in_seq pins s σ H x y v u Q I r1 r2 z
    · exact op_notIn_seq pins s σ H x y v u Q I r1 r2 z
  have fromB : rIn X.K neg x y H Q ∨ rInP X.K neg x y H Q → wpAny (model X.prog X.w) X.A (compareOp (if neg = true then .NotIn else .In) v u) (EP X pins σ Q) X.xe s := fun z => z.elim fromR (op_inP neg hu pins s σ H x y v u Q I r1 r2)
  unfold memM at q
  split at q
  · cases rd; cases re
    split at q
    · rename_i cc hc
      have e1 := str_one hc
      subst e1
      have q2 := c _ q
      cases neg
      · exact op_in_sign pins s σ H _ _ v u Q I r1 r2 ⟨cc, _, rfl, rfl, q2⟩
      · exact op_notIn_sign pins s σ H _ _ v u Q I r1 r2 ⟨cc, _, rfl, rfl, q2⟩
    · exact q.elim
  · obtain ⟨p, vs, rfl, h1, w⟩ := re.seqT (.inl rfl)
    exact fromB (memF_of (.inr h1) rS rd w q c)
  · obtain ⟨p, vs, rfl, h1, w⟩ := re.seqT (.inr (.inl rfl))
    exact fromB (memF_of (.inr h1) rS rd w q c)
  · obtain ⟨p, vs, rfl, h1, w⟩ := re.seqT (.inr (.inr rfl))
    exact fromB (memF_of (.inr h1) rS rd w q c)
  · cases re
    have fromL : ∀ (ds : List D) (vs : List V), SqL X.K H _ vs → RepVs ⟨X.K, G.cls⟩ H ds vs → memM.memF d ds S Q0 → wpAny (model X.prog X.w) X.A (compareOp (if neg = true then .NotIn else .In) v u) (EP X pins σ Q) X.xe s := fun ds vs h1 w q => fromB (memF_of (.inl h1) rS rd w q c)
    split at q
    · rename_i h
      obtain ⟨vs, h1, w⟩ := rS.isL (.inl h)
      exact fromL _ vs h1 w q
    · rename_i h
      obtain ⟨vs, h1, w⟩ := rS.isL (.inr h)
      exact fromL _ vs h1 w q
    · rename_i h
      obtain ⟨o, g, hr⟩ := dget_of rS h q.1 rd
      cases (show u = Value.ref _ from r2)
      have q2 := c _ q.2
      rw [hr.isSome] at q2
      cases neg
      · exact d_in (by omega) I g r1 fun s3 I3 => ⟨.bl o.isSome, H, I3, rfl, q2⟩
      · exact d_notIn (by omega) I g r1 fun s3 I3 => ⟨.bl (!o.isSome), H, I3, rfl, q2⟩
    · exact q.elim
  · exact q.elim
theorem isM_of (neg : Bool) : OpR X (compareOp (if neg = true then .IsNot else .Is)) (liftC ⟨X.K, G.cls⟩ fun x y S Q => isM x y fun b => Q (if neg = true then !b else b)) := by
  intro pins s σ H x y v u Q I r1 r2 ⟨d, e, S, Q1, rd, re, rS, q, c1⟩
  have c : ∀ b, (fun b => Q1 (if neg = true then !b else b)) b → Q (.bl (if neg = true then !b else b)) H := fun b q => c1 _ q
  replace q : isM d e (fun b => Q1 (if neg = true then !b else b)) := q
  generalize (fun b => Q1 (if neg = true then !b else b)) = Q0 at q c
  unfold isM at q
  split at q
  · cases re
    have e1 : decide (x = V.non) = decide (d = D.non) := by cases rd <;> simp
    have q2 := c _ q
    cases neg
    · exact op_isN pins s σ H x _ v u Q I r1 r2 ⟨rfl, by rw [e1]; exact q2⟩
    · exact op_notN pins s σ H x _ v u Q I r1 r2 ⟨rfl, by rw [e1]; exact q2⟩
  · cases rd; cases re
    have q2 := c _ q
    cases neg
    · exact op_isBl pins s σ H _ _ v u Q I r1 r2 ⟨_, _, rfl, rfl, q2⟩
    · exact op_notBl pins s σ H _ _ v u Q I r1 r2 ⟨_, _, rfl, rfl, q2⟩
  · exact q.elim
theorem op_cmp (o : Cmp) (hu2 : X.A.units + 195 < cLine) : OpR X (compareOp (cmpOf o)) (liftC ⟨X.K, G.cls⟩ (cmpM o)) := by
  intro pins s σ H x y v u Q I r1 r2 ⟨d, e, S, Q0, rd, re, rS, q, c⟩
  have hu : X.A.units + 65 < cLine := by omega
  cases o with
  | eq =>
    rcases rEq_of (X := X) rfl rS rd re q c with z | z | z | z | z
    · exact op_eq pins s σ H x y v u Q I r1 r2 z
    · exact op_eqP (by omega) pins s σ H x y v u Q I r1 r2 z
    · exact op_eqD2 false (by omega) pins s σ H x y v u Q I r1 r2 z
    · exact op_eqDT2 false (by omega) pins s σ H x y v u Q I r1 r2 z
    · exact op_eqT (G := ⟨X.K, G.cls⟩) rfl false hu2 pins s σ H x y v u Q I r1 r2 z
  | ne =>
    rcases rNe_of (X := X) rfl rS rd re q c with z | z | z | z | z
    · exact op_ne pins s σ H x y v u Q I r1 r2 z
    · exact op_neP (by omega) pins s σ H x y v u Q I r1 r2 z
    · exact op_eqD2 true (by omega) pins s σ H x y v u Q I r1 r2 z
    · exact op_eqDT2 true (by omega) pins s σ H x y v u Q I r1 r2 z
    · exact op_eqT (G := ⟨X.K, G.cls⟩) rfl true hu2 pins s σ H x y v u Q I r1 r2 z
  | lt =>
    have alt : ltDM d e S Q0 → _ := fun q => op_ltP (by omega) pins s σ H x y v u Q I r1 r2 (ltP_of rS rd re q c)
    cases d <;> cases e <;> simp only [cmpM] at q <;> first | exact alt q | skip
    cases rd; cases re
    exact op_lt pins s σ H _ _ v u Q I r1 r2 ⟨_, _, rfl, rfl, c _ q⟩
  | le =>
    cases d <;> cases e <;> simp only [cmpM] at q
    cases rd; cases re
    exact op_le pins s σ H _ _ v u Q I r1 r2 ⟨_, _, rfl, rfl, c _ q⟩
  | gt =>
    have alt : ltDM e d S Q0 → _ := fun q => op_gtP (by omega) pins s σ H x y v u Q I r1 r2 (ltP_of rS re rd q c)
    cases d <;> cases e <;> simp only [cmpM] at q <;> first | exact alt q | skip
    cases rd; cases re
    exact op_gt pins s σ H _ _ v u Q I r1 r2 ⟨_, _, rfl, rfl, c _ q⟩
  | ge =>
    cases d <;> cases e <;> simp only [cmpM] at q
    cases rd; cases re
    exact op_ge pins s σ H _ _ v u Q I r1 r2 ⟨_, _, rfl, rfl, c _ q⟩
  | «is» => exact isM_of (G := G) false pins s σ H x y v u Q I r1 r2 ⟨d, e, S, Q0, rd, re, rS, q, c⟩
  | isn => exact isM_of (G := G) true pins s σ H x y v u Q I r1 r2 ⟨d, e, S, Q0, rd, re, rS, q, c⟩
  | mem => exact op_mem (G := G) false hu pins s σ H x y v u Q I r1 r2 ⟨d, e, S, Q0, rd, re, rS, q, c⟩
  | nmem => exact op_mem (G := G) true hu pins s σ H x y v u Q I r1 r2 ⟨d, e, S, Q0, rd, re, rS, q, c⟩
end Lr

set_option Elab.async false
set_option linter.all false
set_option maxRecDepth 100000
set_option maxHeartbeats 4000000
/-! sorted(d) of a dict whose keys are pairs of ints -/
namespace Lr
open PySem PySem.Spec PyProof.Rows L2
variable {X : L2.Cx}
def gP (H : Hp) : V → Int × Int
  | .ref t => match H t with
    | some (.tup [.int a, .int b]) => (a, b)
    | _ => (0, 0)
  | _ => (0, 0)
def rSortDT : List V → Hp → VK → Prop := fun xs H Q => ∃ (d : Addr) (kvs : List (List L2.Key × V)) (B : Int), xs = [V.ref d] ∧ Rd H d (.dT kvs) ∧ kvs.length < 64 ∧
  (∀ kv ∈ kvs, ∃ a b : Int, kv.1 = [Sum.inl a, Sum.inl b] ∧ 0 ≤ a ∧ a < B ∧ 0 ≤ b ∧ b < B) ∧
  ∀ (p : Addr) (bs : List Addr) (ys : List V), H p = none → IsKeys H kvs bs → ys.Perm (bs.map V.ref) → ys.Pairwise (fun x y => (gP H x).1 < (gP H y).1 ∨ ((gP H x).1 = (gP H y).1 ∧ (gP H x).2 ≤ (gP H y).2)) → Q (.ref p) (upd H p (.lst ys))
theorem paired_get {α β : Type} {R : α → β → Prop} : ∀ {xs : List α} {ys : List β}, Paired R xs ys → ∀ {j : Nat} {y : β}, ys[j]? = some y → ∃ x, xs[j]? = some x ∧ R x y
  | _, _, .nil, j, y, h => by simp at h
  | _, _, .cons a b, 0, y, h => ⟨_, rfl, by cases h; exact a⟩
  | _, _, .cons a b, j + 1, y, h => by
    obtain ⟨x, h1, h2⟩ := paired_get b (show _ = some y by simpa using h)
    exact ⟨x, by simpa using h1, h2⟩
theorem call_sortedDT (hc : X.calm = true) : CallR X (.builtin "sorted") rSortDT := by
  intro pins s σ H xs us Q I r h
  obtain ⟨d, kvs, B, rfl, hd, h64, hB, q⟩ := h
  obtain ⟨u, rfl, rx⟩ := r.one
  cases rx
  obtain ⟨z, hs, ks, pr, o, es, ep, ho, hx, hdt, he, hn⟩ := (show ObjOk X.prog X.w H s.heap d (.dT kvs) from hd.ok I.hok)
  have l1 : es.size = ks.length := size_of_entries he
  have l2 : kvs.length = ks.length := Paired.length pr
  have hik := isKeys_of pr
  refine Calls.call_function_entry PyProof.Rows.kind_sorted PyProof.Rows.plain_sorted PyProof.Rows.entry_sorted (PyProof.Rows.args_sorted1 _) ?_
  unfold Builtin.«sorted»
  refine wpAny_bind (m := checkCount "sorted" 1 1 _) (wpAny_pure ?_)
  refine wpAny_bind (PySem.W.kdu_collect (A := X.A.in1) (kdl_raw hs hx hdt) (I.ok.hd hc) ho (by omega) fun h' tk acc' kp it => ?_)
  have ea : acc'.toList = (ks.map fun x => x.2.1).map Value.ref := by
    have hl : acc'.toList.length = ks.length := by rw [Array.length_toList, it.1]; exact l1
    rw [List.map_map]
    apply List.ext_getElem?
    intro j
    rw [List.getElem?_map]
    cases hj : acc'.toList[j]? with
    | none =>
      have h1 := List.getElem?_eq_none_iff.mp hj
      rw [List.getElem?_eq_none (by omega)]
      all_goals rfl
    | some v =>
      obtain ⟨en, hen, hv⟩ := it.2 j v (by rw [← Array.getElem?_toList]; exact hj)
      have qe := entry_at he j
      rw [hen] at qe
      cases hb : ks[j]? with
      | none =>
        rw [hb] at qe
        exact nomatch (show some en = none from qe)
      | some b =>
        rw [hb] at qe
        have e2 : en = entryOfKey (tupleKind (mixKind X.prog X.w)) b := Option.some.inj qe
        rw [hv, e2]
        all_goals rfl
  have hbl : (ks.map fun x => x.2.1).length = kvs.length := by rw [List.length_map, l2]
  generalize (ks.map fun x => x.2.1) = bs at hik ea hbl
  have I1 : Inv X pins σ H { s with heap := h', toks := tk } := I.kept kp
  have hal : acc'.toList.length = kvs.length := by rw [ea, List.length_map, hbl]
  refine wpAny_bind (wpAny_newList ?_ (by rw [hal, sizeLine_eq]; omega))
  have hoL : (h'.push (seqObj "list" acc'.toList.toArray 0)).get? h'.objs.size = some (seqObj "list" acc'.toList.toArray 0) := Heap.get?_push_size _ rfl
  have rv : Vals (bs.map V.ref) acc'.toList := by rw [ea]; exact vals_refs _
  have hkey : ∀ (j : Nat) (b : Addr), bs[j]? = some b → ∃ x y : Int, H b = some (.tup [.int x, .int y]) ∧ 0 ≤ x ∧ x < B ∧ 0 ≤ y ∧ y < B := fun j b hb => by
    obtain ⟨kv, h1, h2⟩ := paired_get hik hb
    obtain ⟨x, y, e, b1, b2, b3, b4⟩ := hB kv (List.mem_of_getElem? h1)
    rw [e] at h2
    exact ⟨x, y, h2, b1, b2, b3, b4⟩
  have ok : ∀ (j : Nat) (x : V) (u : Value), (bs.map V.ref)[j]? = some x → acc'.toList[j]? = some u → TS.TupInts (TS.midHeap (h'.push (seqObj "list" acc'.toList.toArray 0)) h'.objs.size acc'.toList) u [(gP H x).1, (gP H x).2] ∧ TS.Bd B [(gP H x).1, (gP H x).2] := by
    intro j x u hx hu
    rw [List.getElem?_map] at hx
    obtain ⟨b, hb, rfl⟩ := Option.map_eq_some_iff.mp hx
    rw [ea, List.getElem?_map, hb] at hu
    obtain rfl : Value.ref b = u := Option.some.inj hu
    obtain ⟨m, n, hH, b1, b2, b3, b4⟩ := hkey j b hb
    have hg : gP H (.ref b) = (m, n) := by
      show (match H b with | some (.tup [.int a, .int b]) => (a, b) | _ => (0, 0)) = _
      rw [hH]
    rw [hg]
    obtain ⟨_, ts, rt, o, ho', hc', hd'⟩ := (show ObjOk X.prog X.w H h' b (.tup [.int m, .int n]) from I1.hok b _ hH)
    have hlt := Heap.lt_size ho'
    refine ⟨⟨b, ts.toArray, rfl, ⟨o, TS.midHeap_old (Nat.ne_of_lt hlt) (Heap.get?_push_of_some _ ho'), hc', hd'⟩, ?_⟩, fun q hq => ?_⟩
    · cases rt with
      | cons r1 r2 =>
        cases r2 with
        | cons r3 r4 =>
          cases r4
          obtain ⟨t1, rfl⟩ := r1
          obtain ⟨t2, rfl⟩ := r3
          exact .cons _ _ (.cons _ _ .nil)
    · rcases List.mem_cons.mp hq with rfl | hq
      · exact ⟨b1, b2⟩
      · rw [List.mem_singleton.mp hq]; exact ⟨b3, b4⟩
  have lv : (bs.map V.ref).length = acc'.toList.length := rv.length
  have tups : TS.TupsOk (TS.midHeap (h'.push (seqObj "list" acc'.toList.toArray 0)) h'.objs.size acc'.toList) 2 B acc'.toList := by
    intro u hu
    obtain ⟨j, hj⟩ := List.mem_iff_getElem?.mp hu
    obtain ⟨x, hx⟩ : ∃ x : V, (bs.map V.ref)[j]? = some x := by
      cases e : (bs.map V.ref)[j]? with
      | some x => exact ⟨x, rfl⟩
      | none =>
        have h1 := List.getElem?_eq_none_iff.mp e
        have h2 := (List.getElem?_eq_some_iff.mp hj).1
        omega
    exact ⟨_, (ok j x u hx hj).1, rfl, (ok j x u hx hj).2⟩
  show wpAny _ _ _ _ _ { s with heap := h'.push (seqObj "list" acc'.toList.toArray 0), toks := tk }
  refine wpAny_bind (wpAny_holding (wpAny_call_entry PyProof.Rows.slot_list_sort ⟨_, hoL, rfl⟩ PyProof.Rows.entry_list_sort
    (SK.plain_sort (s := { s with heap := h'.push (seqObj "list" acc'.toList.toArray 0), toks := tk }) (r := fun v => TS.code B (TS.intsOf (TS.midHeap (h'.push (seqObj "list" acc'.toList.toArray 0)) h'.objs.size acc'.toList) v)) hoL (by rw [hal]; exact h64) (fun h2 Qk hQk => ?_) fun ps out h1 h2 h3 => ⟨_, rfl, ?_⟩) (PyProof.Rows.args_list_sort _)))
  · exact TS.kind_tups (s := { s with heap := TS.midHeap (h'.push (seqObj "list" acc'.toList.toArray 0)) h'.objs.size acc'.toList, toks := tk }) (d := 2) (B := B) (by decide) h2 tups (fun v => TS.code B (TS.intsOf (TS.midHeap (h'.push (seqObj "list" acc'.toList.toArray 0)) h'.objs.size acc'.toList) v)) (fun v _ ns hv => congrArg (TS.code B) hv.ints) Qk hQk
  · have hr : ∀ (j : Nat) (x : V) (u : Value), (bs.map V.ref)[j]? = some x → acc'.toList[j]? = some u → TS.code B (TS.intsOf (TS.midHeap (h'.push (seqObj "list" acc'.toList.toArray 0)) h'.objs.size acc'.toList) u) = TS.code B [(gP H x).1, (gP H x).2] := fun j x u hx hu => congrArg (TS.code B) (ok j x u hx hu).1.ints
    obtain ⟨ys, ry, py, oy⟩ := sorted_liftR (r := fun v => TS.code B (TS.intsOf (TS.midHeap (h'.push (seqObj "list" acc'.toList.toArray 0)) h'.objs.size acc'.toList) v)) (f := fun x => TS.code B [(gP H x).1, (gP H x).2]) rv rfl hr h2 h3
    rw [← h1] at ry
    obtain ⟨ep', he'⟩ := PyProof.Rows.sortedHeap_at (vs := acc'.toList) (out := out) hoL
    have hlen : ys.length ≤ sizeLine := by rw [py.length_eq, List.length_map, hbl, sizeLine_eq]; omega
    have hBx : ∀ x ∈ bs.map V.ref, TS.Bd B [(gP H x).1, (gP H x).2] := fun x hx => by
      obtain ⟨j, hj⟩ := List.mem_iff_getElem?.mp hx
      have hjl := (List.getElem?_eq_some_iff.mp hj).1
      exact (ok j x _ hj (List.getElem?_eq_getElem (by omega))).2
    have oy' : ys.Pairwise (fun x y => (gP H x).1 < (gP H y).1 ∨ ((gP H x).1 = (gP H y).1 ∧ (gP H x).2 ≤ (gP H y).2)) := List.Pairwise.imp_of_mem (fun {x y} hx hy h => code_lex (hBx x (py.mem_iff.mp hx)) (hBx y (py.mem_iff.mp hy)) h) oy
    refine wpAny_pure ⟨_, rfl, .ref h'.objs.size, upd H h'.objs.size (.lst ys), I1.laid (t' := tk) (fun b u e => ?_) (Nat.le_refl _)
      (show ObjOk X.prog X.w _ _ _ (.lst ys) from ⟨hlen, out.toList, ep', ry, by rw [Array.toArray_toList]; exact he'⟩), rfl, q _ bs ys (I1.hok.fresh (Nat.le_refl _)) hik py oy'⟩
    have hb : b < h'.objs.size := Heap.lt_size e
    rw [PyProof.Rows.sortedHeap_old (Nat.ne_of_lt hb) (by rw [size_push']; exact Nat.lt_succ_of_lt hb)]
    exact Heap.get?_push_of_some _ e
end Lr

set_option Elab.async false
set_option linter.all false
set_option maxRecDepth 100000
set_option maxHeartbeats 4000000
/-! sorted(xs) of a list of data -/
namespace Lr
open PySem PySem.Spec PyProof.Rows L2
variable {X : L2.Cx} {G : GI}
theorem each_of {R : Value → D → Prop} {H : Hp} (hR : ∀ v u d, RelV v u → RepV G H d v → R u d) : ∀ {ds : List D} {vs : List V} {us : List Value}, RepVs G H ds vs → Vals vs us → PySem.W.EachIs R us ds
  | _, _, _, .nil, .nil => .nil
  | _, _, _, .cons a b, .cons c d => .cons (hR _ _ _ c a) (each_of hR b d)
theorem each_ofM {R : Value → D → Prop} {H : Hp} : ∀ {ds : List D} {vs : List V} {us : List Value}, (∀ v u d, d ∈ ds → RelV v u → RepV G H d v → R u d) → RepVs G H ds vs → Vals vs us → PySem.W.EachIs R us ds
  | _, _, _, _, .nil, .nil => .nil
  | _, _, _, hR, .cons a b, .cons c d => .cons (hR _ _ _ (List.mem_cons_self ..) c a) (each_ofM (fun v u d hd => hR v u d (List.mem_cons_of_mem _ hd)) b d)
theorem of_each {H : Hp} : ∀ {ds : List D} {us : List Value}, PySem.W.EachIs (fun u d => ∃ v, RelV v u ∧ RepV G H d v) us ds → ∃ vs, Vals vs us ∧ RepVs G H ds vs
  | _, _, .nil => ⟨[], .nil, .nil⟩
  | _, _, .cons ⟨v, a, b⟩ t => by
    obtain ⟨vs, c, d⟩ := of_each t
    exact ⟨v :: vs, .cons a c, .cons b d⟩
theorem sortedD_r {pins : List (Addr × Obj)} {s : Shared} {σ : L2.St} {H : Hp} {Q : VK} {a : Addr} {us : List Value} {ds : List D} {vs : List V} {S : Sto} {es : List PyData} (hu : X.A.units + 66 < cLine) (I : Inv X pins σ H s) (r : Vals [.ref a] us) (h1 : SqL X.K H a vs)
    (rS : RepS ⟨X.K, G.cls⟩ S H) (w : RepVs ⟨X.K, G.cls⟩ H ds vs) (he : D.pyWs (pyA S 16) ds = some es) (hal : PySem.W.AllAlike es) (hk : PySem.W.Sortable es) (hd : PyData.depthAll es ≤ 64) (hL : ds.length ≤ sizeLine)
    (q : ∀ p ys, H p = none → ∀ ds' : List D, ds'.Perm ds → ds'.Pairwise (fun x y => PySem.W.dataLt (encS S y) (encS S x) = false) → RepVs ⟨X.K, G.cls⟩ H ds' ys → Q (.ref p) (upd H p (.lst ys))) :
    wpAny (model X.prog X.w) X.A (call (.builtin "sorted") us) (EP X pins σ Q) X.xe s := by
  obtain ⟨u, rfl, rx⟩ := r.one
  cases rx
  obtain ⟨its, rv, pl, hz⟩ := I.list h1
  have hall : ∀ (xs : List D) (zs : List PyData), D.pyWs (pyA S 16) xs = some zs → xs.map (encS S) = zs ∧ ∀ d ∈ xs, pyv S d = some (encS S d) := by
    intro xs
    induction xs with
    | nil => intro zs h; cases h; exact ⟨rfl, fun _ h => nomatch h⟩
    | cons x xs ih =>
      intro zs h
      simp only [D.pyWs] at h
      split at h
      · rename_i y ys e1 e2
        cases h
        obtain ⟨i1, i2⟩ := ih _ e2
        have e1' : pyv S x = some y := e1
        refine ⟨by rw [List.map_cons, i1]; unfold encS; rw [e1']; rfl, fun d hd => ?_⟩
        rcases List.mem_cons.mp hd with rfl | hd
        · unfold encS; rw [e1']; rfl
        · exact i2 d hd
      · cases h
  obtain ⟨e0, e1⟩ := hall ds es he
  have hdep : ∀ (zs : List PyData), PyData.depthAll zs ≤ 64 → ∀ z ∈ zs, z.depth ≤ 64 := by
    intro zs
    induction zs with
    | nil => intro _ z h; cases h
    | cons x zs ih =>
      intro h z hz
      rw [PyData.depthAll] at h
      rcases List.mem_cons.mp hz with rfl | hz
      · omega
      · exact ih (by omega) z hz
  have E1 : PySem.W.EachIs (fun u d => ∃ v, RelV v u ∧ RepV ⟨X.K, G.cls⟩ H d v) its ds := each_of (fun v u d a b => ⟨v, a, b⟩) w rv
  have E2 : PySem.W.EachIs (fun u d => ∃ as, Reads s.heap u (encS S d) as) its ds :=
    each_ofM (fun v u d hd a b => Dp.reads I _ _ _ (dp_v rS b (e1 d hd)) a) w rv
  refine PySem.W.sorted_data (vs := its) (bs := ds) (enc := encS S) pl.isList E1 E2 (by rw [e0]; exact hal) (by rw [e0]; exact hk) hL (fun d hd' => ?_) fun out hl E3 => ?_
  · have := hdep es hd (encS S d) (by rw [← e0]; exact List.mem_map_of_mem hd')
    omega
  · obtain ⟨ys, r3, w3⟩ := of_each E3
    obtain ⟨e, he'⟩ := PyProof.Rows.sortedAll_at s.heap its (List.toArray out)
    have hp : s.heap.objs.size ≤ s.heap.objs.size + 1 := Nat.le_succ _
    have hlen : ys.length ≤ sizeLine := by rw [r3.length, hl]; exact hL
    exact ⟨.ref (s.heap.objs.size + 1), upd H (s.heap.objs.size + 1) (.lst ys), I.laid (t' := s.toks) (fun b u hb => PyProof.Rows.sortedAll_old hb) hp
      (show ObjOk X.prog X.w _ _ _ (.lst ys) from ⟨hlen, out, e, r3, he'⟩), rfl, q _ ys (I1hok I hp) _ (List.mergeSort_perm ds _) (by
        have z := PySem.W.sort_pairwise (PySem.W.sortLe_total (PyProof.Rows.listOrd PyProof.Rows.itemOrd) false fun b => PySem.W.keyToks (encS S b)) ds
        exact z.imp fun h => by
          have h : PySem.W.dataLe false (encS S) _ _ = true := h
          rw [PySem.W.dataLe_eq] at h
          simpa using h) w3⟩
where
  I1hok {pins : List (Addr × Obj)} {s : Shared} {σ : L2.St} {H : Hp} {p : Addr} (I : Inv X pins σ H s) (hp : s.heap.objs.size ≤ p) : H p = none := I.hok.fresh hp
end Lr

set_option Elab.async false
set_option linter.all false
set_option maxRecDepth 100000
set_option maxHeartbeats 2000000
/-! part 4: truth, places, built-in functions and methods -/
namespace Lr
open PySem PySem.Spec PyProof.Rows L2
variable {G : GI} {X : L2.Cx}
/-! ### truth -/
theorem truV_of {d : D} {v : V} {H : Hp} {S : Sto} {Q : Bool → Prop} (rS : RepS G S H) (r : RepV G H d v) (q : truM d S Q) : ∃ k, TruV G.K v H k ∧ Q k := by
  unfold truM at q
  split at q
  · cases r; exact ⟨_, rfl, q⟩
  · cases r; exact ⟨_, rfl, q⟩
  · cases r; exact ⟨_, rfl, q⟩
  · cases r; exact ⟨_, ⟨q.1, rfl⟩, q.2⟩
  · obtain ⟨p, vs, rfl, h1, w⟩ := r.seqT (.inl rfl)
    refine ⟨_, .inr (.inl ⟨vs, h1, rfl⟩), ?_⟩
    rw [← w.isEmpty]; exact q
  · cases r
    split at q
    · rename_i h
      obtain ⟨vs, h1, w⟩ := rS.isL (.inl h)
      refine ⟨_, .inl ⟨vs, h1, rfl⟩, ?_⟩
      rw [← w.isEmpty]; exact q
    · rename_i h
      obtain ⟨vs, h1, w⟩ := rS.isL (.inr h)
      refine ⟨_, .inl ⟨vs, h1, rfl⟩, ?_⟩
      rw [← w.isEmpty]; exact q
    · exact q.elim
  · exact q.elim
/-! ### places -/
theorem atI_rep {ds : List D} {vs : List V} {H : Hp} {i : Int} {d : D} (r : RepVs G H ds vs) (e : atI ds i = some d) : ∃ v, atI vs i = some v ∧ RepV G H d v := by
  unfold atI at e ⊢
  rw [← r.length]
  cases h : ixN ds.length i with
  | none => rw [h] at e; cases e
  | some j =>
    rw [h] at e
    exact r.get (i := j) e
theorem op_ix (hu : X.A.units + 1 < cLine) : IxR X (liftR2 ⟨X.K, G.cls⟩ ixM) := by
  intro value slice pins s σ H x y v u Q I r1 r2 ⟨d, e, S, Q0, rd, re, rS, q, c⟩ hs
  unfold ixM at q
  split at q
  · cases re
    obtain ⟨p, vs, rfl, h1, w⟩ := rd.seqT (.inl rfl)
    split at q
    · rename_i h
      obtain ⟨z, h2, h3⟩ := atI_rep w h
      exact ix_tup value slice pins s σ H _ _ v u Q I r1 r2 ⟨p, vs, _, z, rfl, rfl, h1, h2, cont_same c rS q h3⟩ hs
    · exact q.elim
  · cases re
    obtain ⟨p, vs, rfl, h1, w⟩ := rd.seqT (.inr (.inl rfl))
    split at q
    · rename_i h
      obtain ⟨z, h2, h3⟩ := atI_rep w h
      exact ix_tup value slice pins s σ H _ _ v u Q I r1 r2 ⟨p, vs, _, z, rfl, rfl, h1, h2, cont_same c rS q h3⟩ hs
    · exact q.elim
  · cases re
    obtain ⟨p, vs, rfl, h1, w⟩ := rd.seqT (.inr (.inr rfl))
    split at q
    · rename_i h
      obtain ⟨z, h2, h3⟩ := atI_rep w h
      exact ix_tup value slice pins s σ H _ _ v u Q I r1 r2 ⟨p, vs, _, z, rfl, rfl, h1, h2, cont_same c rS q h3⟩ hs
    · exact q.elim
  · cases rd; cases re
    obtain ⟨hz, q⟩ := q
    split at q
    · rename_i h
      exact ix_str value slice pins s σ H _ _ v u Q I r1 r2 ⟨_, _, _, rfl, rfl, hz, h, cont_same c rS q (.str _)⟩ hs
    · exact q.elim
  · cases rd
    split at q
    · rename_i h
      split at q
      · cases re
        split at q
        · rename_i h'
          obtain ⟨vs, h1, w⟩ := rS.isL (.inl h)
          obtain ⟨z, h2, h3⟩ := atI_rep w h'
          exact ix_list value slice pins s σ H _ _ v u Q I r1 r2 ⟨_, vs, _, z, rfl, rfl, h1, h2, cont_same c rS q h3⟩ hs
        · exact q.elim
      · exact q.elim
    · rename_i h
      split at q
      · cases re
        split at q
        · rename_i h'
          obtain ⟨vs, h1, w⟩ := rS.isL (.inr h)
          obtain ⟨z, h2, h3⟩ := atI_rep w h'
          exact ix_list value slice pins s σ H _ _ v u Q I r1 r2 ⟨_, vs, _, z, rfl, rfl, h1, h2, cont_same c rS q h3⟩ hs
        · exact q.elim
      · exact q.elim
    · rename_i h
      obtain ⟨hk, q⟩ := q
      obtain ⟨o, g, hr⟩ := dget_of rS h hk re
      cases (show v = Value.ref _ from r1)
      split at q
      · rename_i h'
        rw [h'] at hr
        cases o with
        | none => exact hr.elim
        | some z =>
          exact tail_any (dict_typeIs I g) PySem.F.slot_dict_getitem.lookup (d_getItem hu I g r2 fun w' s3 I3 rw' => ⟨z, H, I3, rw', cont_same c rS q hr⟩) hs
      · exact q.elim
    · exact q.elim
  · exact q.elim
theorem cutL_whole {α : Type} {xs : List α} {lo hi : Option Int} (h : HT.sIx xs.length 0 lo = 0 ∧ HT.sIx xs.length xs.length hi = xs.length) : cutL xs lo hi = xs := by
  unfold cutL
  rw [h.1, h.2]
  simp
def liftSl (G : GI) (r : D → Option Int → Option Int → Sto → QE → Prop) : V → Option Int → Option Int → Hp → VK → Prop := fun x lo hi H Q => ∃ d S Q0, RepV G H d x ∧ RepS G S H ∧ r d lo hi S Q0 ∧ Cont G Q0 H Q
theorem op_sl : SlR X (liftSl ⟨X.K, G.cls⟩ slM) := by
  intro pins s σ H x v vl vu lo hi sl Q I rx hs pl pu ⟨d, S, Q0, rd, rS, q, c⟩
  unfold slM at q
  split at q
  · obtain ⟨p, vs, rfl, h1, w⟩ := rd.seqT (.inl rfl)
    refine sl_tupF pins s σ H _ v vl vu lo hi sl Q I rx hs pl pu ⟨p, vs, rfl, h1, fun e => ?_, fun _ => cont_tup c rS q (w.cut lo hi)⟩
    have e2 : cutL _ lo hi = _ := cutL_whole (by rw [w.length]; exact e)
    rw [e2] at q
    exact cont_same c rS q rd
  · cases rd
    exact sl_str pins s σ H _ v vl vu lo hi sl Q I rx hs pl pu ⟨_, rfl, q.1, cont_same c rS q.2 (.str _)⟩
  · cases rd
    split at q
    · rename_i h
      obtain ⟨vs, h1, w⟩ := rS.isL (.inl h)
      exact sl_list pins s σ H _ v vl vu lo hi sl Q I rx hs pl pu ⟨_, vs, rfl, h1, cont_new c rS q (w.cut lo hi)⟩
    · rename_i h
      obtain ⟨vs, h1, w⟩ := rS.isL (.inr h)
      exact sl_list pins s σ H _ v vl vu lo hi sl Q I rx hs pl pu ⟨_, vs, rfl, h1, cont_new c rS q (w.cut lo hi)⟩
    · exact q.elim
  · exact q.elim
/-- o[k] = v -/
def liftSet (G : GI) (r : D → D → D → Sto → (Sto → Prop) → Prop) : TSet := fun o i v H Q => ∃ d e u S Q0, RepV G H d o ∧ RepV G H e i ∧ RepV G H u v ∧ RepS G S H ∧ r d e u S Q0 ∧ ∀ S' H', Q0 S' → TExt H H' → RepS G S' H' → Q H'
theorem op_put (hu : X.A.units + 1 < cLine) : PSet X (liftSet ⟨X.K, G.cls⟩ putM) := by
  intro pins s σ H o i v ov iv u Q I ro ri rv ⟨d, e, w, S, Q0, rd, re, rw', rS, q, c⟩
  unfold putM at q
  split at q
  · cases rd
    split at q
    · rename_i h
      obtain ⟨vs, h1, w1⟩ := rS.lst h
      split at q
      · cases re
        split at q
        · rename_i h'
          have hj := h'
          rw [w1.length] at hj
          refine set_list pins s σ H _ _ v ov iv u Q I ro ri rv ⟨_, vs, _, _, rfl, rfl, h1, hj, ?_⟩
          exact c _ _ q (TExt.write (rS.notup h)) (rS.write h ⟨_, upd_same, (w1.set rw' _).mono (TExt.write (rS.notup h))⟩)
        · exact q.elim
      · exact q.elim
    · rename_i h
      obtain ⟨hk, hz, q⟩ := q
      obtain ⟨H', g, rS', t⟩ := dput_of rS h hk hz re rw'
      exact set_dict hu pins s σ H _ _ v ov iv u Q I ro ri rv ⟨_, H', rfl, g, c _ _ q t rS'⟩
    · exact q.elim
  · exact q.elim

/-! ### built-in functions -/
def bfV : Bf → Option (String × Value)
  | .len => some ("len", .builtin "len")
  | .max2 => some ("max", .builtin "max")
  | .min2 => some ("min", .builtin "min")
  | .max1 => some ("max", .builtin "max")
  | .min1 => some ("min", .builtin "min")
  | .all => some ("all", .builtin "all")
  | .any => some ("any", .builtin "any")
  | .sum => some ("sum", .builtin "sum")
  | .sorted => some ("sorted", .builtin "sorted")
  | .isinst => some ("isinstance", .builtin "isinstance")
  | .int_ => some ("int", .type "int")
  | .str_ => some ("str", .type "str")
  | .tuple => some ("tuple", .type "tuple")
  | .list => some ("list", .type "list")
  | .dictPairs => some ("dict", .type "dict")
  | _ => none
def liftBf (G : GI) (r : List D → Sto → QE → Prop) : List V → Hp → VK → Prop := fun xs H Q => ∃ ds S Q0, RepVs G H ds xs ∧ RepS G S H ∧ r ds S Q0 ∧ Cont G Q0 H Q
def tv (G : GI) : D → Value
  | .ty n => .type n
  | .cl c => .ref (G.cls c)
  | _ => .none
/-- what the written part says of the text's own classes -/
structure ClsF (G : GI) (fl : String → String → Bool) : Prop where
  cls : ∀ c, fl c "" = true → Cls G.K (G.cls c) ∧ PySem.W.findIn G.K (.ref (G.cls c)) "__class__" = some (some (.builtin "object.__class__")) ∧
      PySem.W.specialIn G.K (.builtin "object.__class__") "__get__" = some (some (.builtin "getset_descriptor.__get__")) ∧ PySem.W.takesIn G.K (.builtin "object.__class__") = some true ∧ PySem.W.mroIn G.K (G.cls c) (.type "object") = some true
  fld : ∀ c f, fl c f = true → f ≠ "" → NoAttr G.K (G.cls c) (Str.ofString f) ∧ Cls G.K (G.cls c)
  one : ∀ c, fl c "" = true → (∀ n ∈ tyN, PySem.W.kitOne G.K (.type n) (.ref (G.cls c)) = some false) ∧ (∀ m ∈ tyM, PySem.W.kitOne G.K (.ref (G.cls c)) (.type m) = some false) ∧
      ∀ c', fl c' "" = true → PySem.W.kitOne G.K (.ref (G.cls c)) (.ref (G.cls c')) = some (c == c')
theorem kit_tys : ∀ n ∈ tyN, ∀ m ∈ tyM, kitB n m = some (n == m || (n == "bool" && m == "int")) := by decide +kernel
theorem isOne_kit {fl : String → String → Bool} (F : ClsF G fl) {t c : D} {b : Bool} (e : isOne fl t c = some b) : PySem.W.kitOne G.K (tv G t) (tv G c) = some b ∧ (∀ k, t = .cl k → fl k "" = true) := by
  unfold isOne at e
  split at e
  · split at e
    · rename_i h
      rw [Bool.and_eq_true] at h
      cases e
      exact ⟨kit_ty (kit_tys _ (List.contains_iff_mem.mp h.1) _ (List.contains_iff_mem.mp h.2)), fun _ z => by cases z⟩
    · cases e
  · split at e
    · rename_i h
      rw [Bool.and_eq_true] at h
      cases e
      exact ⟨(F.one _ h.2).1 _ (List.contains_iff_mem.mp h.1), fun _ z => by cases z⟩
    · cases e
  · split at e
    · rename_i h
      rw [Bool.and_eq_true] at h
      cases e
      exact ⟨(F.one _ h.1).2.2 _ h.2, fun _ z => by cases z; exact h.1⟩
    · cases e
  · split at e
    · rename_i h
      rw [Bool.and_eq_true] at h
      cases e
      exact ⟨(F.one _ h.1).2.1 _ (List.contains_iff_mem.mp h.2), fun _ z => by cases z; exact h.1⟩
    · cases e
  · cases e
theorem isAny_kit {fl : String → String → Bool} (F : ClsF G fl) {t : D} : ∀ {cs : List D} {b : Bool}, isAny fl t cs = some b → PySem.W.kitAny G.K (tv G t) (cs.map (tv G)) = some b
  | [], _, e => e
  | c :: r, b, e => by
    simp only [isAny] at e
    simp only [List.map_cons, PySem.W.kitAny]
    split at e
    · rename_i h; rw [(isOne_kit F h).1]; exact e
    · rename_i h; rw [(isOne_kit F h).1]; exact isAny_kit F e
    · cases e
theorem isOne_cls {fl : String → String → Bool} {t c : D} {b : Bool} (e : isOne fl t c = some b) : (∃ n, c = .ty n) ∨ ∃ k, c = .cl k := by
  unfold isOne at e
  split at e
  · exact .inl ⟨_, rfl⟩
  · exact .inr ⟨_, rfl⟩
  · exact .inr ⟨_, rfl⟩
  · exact .inl ⟨_, rfl⟩
  · cases e
theorem clsV_of {c : D} {v : V} {H : Hp} (r : RepV G H c v) (h : (∃ n, c = .ty n) ∨ ∃ k, c = .cl k) : ClsV v (tv G c) := by
  rcases h with ⟨n, rfl⟩ | ⟨k, rfl⟩
  · cases r; exact .ty n
  · cases r; exact .own _
theorem isAny_cls {H : Hp} : ∀ {cs : List D} {vs : List V}, RepVs G H cs vs → cs.all isTyD = true → Paired ClsV vs (cs.map (tv G))
  | _, _, .nil, _ => .nil
  | _, _, .cons (d := d) a b, e => by
    simp only [List.all_cons, Bool.and_eq_true] at e
    refine .cons (clsV_of a ?_) (isAny_cls b e.2)
    cases d <;> simp [isTyD] at e
    · exact .inl ⟨_, rfl⟩
    · exact .inr ⟨_, rfl⟩
theorem isAny_hk {fl : String → String → Bool} (F : ClsF G fl) {t : D} {cs : List D} {b : Bool} (hn : cs ≠ []) (e : isAny fl t cs = some b) : ∀ k, t = .cl k → fl k "" = true := by
  cases cs with
  | nil => exact absurd rfl hn
  | cons c r =>
    simp only [isAny] at e
    split at e
    · rename_i h; exact (isOne_kit F h).2
    · rename_i h; exact (isOne_kit F h).2
    · cases e
theorem tyOf_rep {fl : String → String → Bool} (F : ClsF G fl) {d t : D} {v : V} {H : Hp} {S : Sto} (hk : ∀ k, t = .cl k → fl k "" = true) (rS : RepS G S H) (r : RepV G H d v) (e : tyOf d S = some t) : TyX G.K H v (tv G t) := by
  cases r with
  | non => cases e; exact .base .non
  | bl b => cases e; exact .base (.bl b)
  | int b => cases e; exact .base (.int b)
  | str b => cases e; exact .base (.str b)
  | ty n => cases e
  | cl c => cases e
  | kt h _ =>
    cases e
    obtain ⟨o, its, n, h1, h2, _⟩ := h
    exact .kTuple h1 h2
  | tup h _ w => cases e; exact .fTuple h
  | key h _ => cases e; exact .base (.tup h)
  | ref a =>
    simp only [tyOf] at e
    split at e
    · rename_i h; cases e
      obtain ⟨vs, h1, _⟩ := rS.lst h
      exact .base (.lst h1)
    · rename_i h; cases e
      obtain ⟨o, vs, h1, _⟩ := rS.rol h
      exact .base (.frz h1)
    · rename_i t kvs h; cases e
      cases t
      · obtain ⟨vs, h1, _⟩ := (show ∃ vs, H a = some (.dK vs) ∧ RepKV G H kvs vs from rS a _ h)
        exact .base (.dK h1)
      · obtain ⟨vs, h1, _⟩ := (show ∃ vs, H a = some (.dT vs) ∧ RepKT G H kvs vs from rS a _ h)
        exact .base (.dT h1)
    · rename_i c fs h; cases e
      obtain ⟨dx, vs, h1, _⟩ := (show ∃ dx vs, H a = some (.ins (G.cls c) dx vs) ∧ RepF G H fs vs from rS a _ h)
      obtain ⟨c1, c2, c3, c4, c5⟩ := F.cls c (hk c rfl)
      exact .base (.ins h1 c1 c2 c3 c4 c5)
    · cases e
theorem LenV_seq {d : D} {ds : List D} {v : V} {H : Hp} {S : Sto} (rS : RepS G S H) (r : RepV G H d v) (e : seqOf d S = some ds) : ∃ p vs, v = .ref p ∧ (SqL G.K H p vs ∨ SqT G.K H p vs) ∧ vs.length = ds.length := by
  obtain ⟨p, vs, h1, h2, h3⟩ := rS.seq r e
  exact ⟨p, vs, h1, h2, h3.length.symm⟩

theorem _root_.Lr.RepVs.one {d : D} {vs : List V} {H : Hp} (r : RepVs G H [d] vs) : ∃ v, vs = [v] ∧ RepV G H d v := by
  cases r with
  | cons a b => cases b; exact ⟨_, rfl, a⟩
theorem _root_.Lr.RepVs.two {d e : D} {vs : List V} {H : Hp} (r : RepVs G H [d, e] vs) : ∃ v u, vs = [v, u] ∧ RepV G H d v ∧ RepV G H e u := by
  cases r with
  | cons a b =>
    obtain ⟨u, rfl, c⟩ := b.one
    exact ⟨_, u, rfl, a, c⟩
theorem seq_ref {a : Nat} {ds : List D} {S : Sto} (e : seqOf (.ref a) S = some ds) : isL S a ds := by
  simp only [seqOf] at e
  split at e
  · cases e; rename_i h; exact .inl h
  · cases e; rename_i h; exact .inr h
  · cases e
theorem seq_tuple {d : D} {ds : List D} {S : Sto} (h : seqOf d S = some ds) (hk : ∀ es, d = .kt es → False) (hk2 : ∀ es, d = .key es → False) : d = .tup ds ∨ ∃ a, d = .ref a ∧ isL S a ds := by
  cases d with
  | tup es => cases h; exact .inl rfl
  | key es => exact (hk2 _ rfl).elim
  | ref n => exact .inr ⟨n, rfl, seq_ref h⟩
  | kt es => exact (hk _ rfl).elim
  | _ => simp [seqOf] at h
theorem kv_keys {H : Hp} : ∀ {kvs : List (D × D)} {vs : List (Key × V)}, RepKV G H kvs vs → RepVs G H (kvs.map (·.1)) (vs.map fun kv => kV kv.1)
  | _, _, .nil => .nil
  | _, _, .int _ b => .cons (.int _) (kv_keys b)
  | _, _, .str _ b => .cons (.str _) (kv_keys b)
theorem kt_keys {H : Hp} : ∀ {kvs : List (D × D)} {vs : List (List Key × V)} {bs : List Addr}, RepKT G H kvs vs → IsKeys H vs bs → RepVs G H (kvs.map (·.1)) (bs.map V.ref)
  | _, _, _, .nil, .nil => .nil
  | _, _, _, .cons (ks := ks) a b, .cons h t => by
    refine .cons (.key h ?_) (kt_keys b t)
    clear h
    induction ks with
    | nil => exact .nil
    | cons k r ih =>
      refine .cons ?_ ih
      cases k
      · exact .int _
      · exact .str _
theorem mergeK_put {kvs : List (Key × V)} : ∀ {acc : List (D × D)} {vs : List (Key × V)} {ps : List (D × D)} {H : Hp}, RepKV G H acc vs → RepKV G H ps kvs → RepKV G H (mergeD acc ps) (mergeK vs kvs) := by
  induction kvs with
  | nil => intro acc vs ps H a b; cases b; exact a
  | cons kv r ih =>
    intro acc vs ps H a b
    cases b with
    | @int i _ _ _ _ q b => exact ih (acc := putD acc (.int i) _) (put_kv (.inl i) q a) b
    | @str i _ _ _ _ q b => exact ih (acc := putD acc (.str i) _) (put_kv (.inr i) q a) b
theorem pair_of {H : Hp} {d k v : D} {u : V} (a : RepV G H d u) (e : d = .tup [k, v] ∨ d = .key [k, v]) : ∃ p x y, u = .ref p ∧ SqT G.K H p [x, y] ∧ RepV G H k x ∧ RepV G H v y := by
  have : ∃ p vs, u = .ref p ∧ SqT G.K H p vs ∧ RepVs G H [k, v] vs := by
    rcases e with rfl | rfl
    · exact a.seqT (.inl rfl)
    · exact a.seqT (.inr (.inr rfl))
  obtain ⟨p, vs, e1, e2, e3⟩ := this
  obtain ⟨x, y, rfl, h1, h2⟩ := e3.two
  exact ⟨p, x, y, e1, e2, h1, h2⟩
theorem pairsD_cons {d : D} {ds : List D} {ps : List (D × D)} (e : pairsD (d :: ds) = some ps) : ∃ k v ps', (d = .tup [k, v] ∨ d = .key [k, v]) ∧ pairsD ds = some ps' ∧ ps = (k, v) :: ps' := by
  unfold pairsD at e
  split at e
  · rename_i z; cases z
  · rename_i z; cases z
    obtain ⟨ps', e1, rfl⟩ := Option.map_eq_some_iff.mp e
    exact ⟨_, _, ps', .inl rfl, e1, rfl⟩
  · rename_i z; cases z
    obtain ⟨ps', e1, rfl⟩ := Option.map_eq_some_iff.mp e
    exact ⟨_, _, ps', .inr rfl, e1, rfl⟩
  · cases e
theorem pairs_of {H : Hp} : ∀ {ds : List D} {vs : List V} {ps : List (D × D)}, RepVs G H ds vs → pairsD ds = some ps → (ps.all fun kv => isKey false kv.1) = true →
    ∃ (as : List Addr) (kvs : List (Key × V)), vs = as.map V.ref ∧ RepKV G H ps kvs ∧ Paired (fun p kv => SqT G.K H p [kV kv.1, kv.2]) as kvs
  | _, _, _, .nil, e, _ => by cases e; exact ⟨[], [], rfl, .nil, .nil⟩
  | _, _, _, .cons (d := d) a b, e, h => by
    obtain ⟨k, v, ps', e1, e2, rfl⟩ := pairsD_cons e
    simp only [List.all_cons, Bool.and_eq_true] at h
    obtain ⟨as, kvs, h1, h2, h3⟩ := pairs_of b e2 h.2
    obtain ⟨p, x, y, rfl, h4, q1, q2⟩ := pair_of a e1
    rcases key_cases h.1 with ⟨_, k', hk'⟩ | ⟨z, _⟩
    · subst hk'
      have := kD_V q1
      subst this
      refine ⟨p :: as, (k', _) :: kvs, by rw [h1]; rfl, ?_, .cons h4 h3⟩
      cases k'
      · exact .int q2 h2
      · exact .str q2 h2
    · cases z
theorem cont_dct {Q0 : QE} {H : Hp} {Q : VK} {S : Sto} {ds : List (D × D)} {vs : List (Key × V)} (c : Cont G Q0 H Q) (rS : RepS G S H) (q : ∀ p, S p = none → Q0 (.ref p) (S.put p (.dct false ds))) (r : RepKV G H ds vs) : ∀ p, H p = none → Q (.ref p) (upd H p (.dK vs)) := fun p hp =>
  c _ _ _ _ (q p (rS.free hp)) (TExt.new hp) (rS.new hp ⟨vs, upd_same, r.mono (TExt.new hp)⟩) (.ref p)
theorem keyPs_rep {G : GI} {H : Hp} : ∀ {kvs : List (D × D)} {vs : List (List Key × V)} {ps : List (Int × Int)}, RepKT G H kvs vs → keyPs kvs = some ps → vs.map (·.1) = ps.map fun p => [Sum.inl p.1, Sum.inl p.2]
  | _, _, _, .nil, h => by
    have : ([] : List (Int × Int)) = _ := Option.some.inj h
    rw [← this]; rfl
  | _, _, ps, .cons (ks := ks) a b, h => by
    match ks, h with
    | [.inl x, .inl y], h =>
      have h : (keyPs _).map ((x, y) :: ·) = some ps := h
      obtain ⟨qs, h1, rfl⟩ := Option.map_eq_some_iff.mp h
      rw [List.map_cons, List.map_cons, keyPs_rep b h1]
theorem bound_of : ∀ ps : List (Int × Int), ∃ B : Int, ∀ p ∈ ps, p.1 < B ∧ p.2 < B
  | [] => ⟨0, fun p h => by cases h⟩
  | p :: ps => by
    obtain ⟨B, h⟩ := bound_of ps
    refine ⟨max B (max (p.1 + 1) (p.2 + 1)), fun q hq => ?_⟩
    rcases List.mem_cons.mp hq with rfl | hq
    · omega
    · have := h q hq; omega
theorem keys_g {H : Hp} : ∀ {vs : List (List Key × V)} {bs : List Addr} {ps : List (Int × Int)}, IsKeys H vs bs → vs.map (·.1) = ps.map (fun p => [Sum.inl p.1, Sum.inl p.2]) → (bs.map V.ref).map (gP H) = ps ∧ ∀ b ∈ bs, H b = some (.tup [.int (gP H (.ref b)).1, .int (gP H (.ref b)).2])
  | _, _, [], .nil, _ => ⟨rfl, fun b h => by cases h⟩
  | _, _, _ :: _, .nil, h => by simp at h
  | _, _, [], .cons _ _, h => by simp at h
  | _, _, p :: ps, .cons (b := b) a t, h => by
    rw [List.map_cons, List.map_cons] at h
    obtain ⟨e1, e2⟩ := List.cons.inj h
    obtain ⟨h1, h2⟩ := keys_g t e2
    rw [e1] at a
    have hg : gP H (.ref b) = p := by
      show (match H b with | some (.tup [.int a, .int b]) => (a, b) | _ => (0, 0)) = _
      rw [show H b = some (.tup [.int p.1, .int p.2]) from a]
    refine ⟨by rw [List.map_cons, List.map_cons, hg, h1], fun c hc => ?_⟩
    rcases List.mem_cons.mp hc with rfl | hc
    · rw [hg]; exact a
    · exact h2 c hc
theorem sortedDT_r {G : GI} {H : Hp} {Q : VK} {a : Addr} {kvs : List (D × D)} {vs : List (List Key × V)} {ps : List (Int × Int)} (h64 : ps.length < 64) (hpos : ∀ p ∈ ps, 0 ≤ p.1 ∧ 0 ≤ p.2) (hk : keyPs kvs = some ps) (h1 : H a = some (.dT vs)) (h2 : RepKT G H kvs vs)
    (q : ∀ (p : Addr) (ys : List V), H p = none → ∀ ps' : List (Int × Int), ps'.Perm ps → ps'.Pairwise lexI → RepVs G H (ps'.map pairK) ys → Q (.ref p) (upd H p (.lst ys))) : rSortDT [V.ref a] H Q := by
  have e := keyPs_rep h2 hk
  obtain ⟨B, hB⟩ := bound_of ps
  have hl : vs.length = ps.length := by
    have := congrArg List.length e
    rw [List.length_map, List.length_map] at this
    exact this
  refine ⟨a, vs, B, rfl, .inl h1, by omega, fun kv hkv => ?_, fun p bs ys hp hik py oy => ?_⟩
  · have : kv.1 ∈ vs.map (·.1) := List.mem_map_of_mem hkv
    rw [e] at this
    obtain ⟨x, hx, ex⟩ := List.mem_map.mp this
    have h3 := hpos x hx
    have h4 := hB x hx
    exact ⟨x.1, x.2, ex.symm, h3.1, h4.1, h3.2, h4.2⟩
  · obtain ⟨g1, g2⟩ := keys_g hik e
    refine q p ys hp (ys.map (gP H)) (by rw [← g1]; exact py.map _) (List.pairwise_map.mpr (oy.imp fun h => h)) ?_
    have hys : ∀ y ∈ ys, ∃ b ∈ bs, y = V.ref b := fun y hy => by
      obtain ⟨b, hb, e⟩ := List.mem_map.mp (py.mem_iff.mp hy)
      exact ⟨b, hb, e.symm⟩
    clear py oy
    induction ys with
    | nil => exact .nil
    | cons y ys ih =>
      obtain ⟨b, hb, rfl⟩ := hys y (List.mem_cons_self ..)
      exact .cons (.key (g2 b hb) (.cons (.int _) (.cons (.int _) .nil))) (ih fun y hy => hys y (List.mem_cons_of_mem _ hy))
theorem op_bf {fl : String → String → Bool} (hu : X.A.units + 66 < cLine) (F : ClsF ⟨X.K, G.cls⟩ fl) (hc : X.calm = true) (hh : ∀ pins s σ H, Inv X pins σ H s → X.A.handled = none) {f : Bf} {n : String} {fv : Value} (hf : bfV f = some (n, fv)) :
    CallR X fv (liftBf ⟨X.K, G.cls⟩ (bfM fl f)) := by
  intro pins s σ H xs us Q I r ⟨ds, S, Q0, rs, rS, q, c⟩
  unfold bfM at q
  split at q
  · cases hf
    obtain ⟨_, rfl, a⟩ := rs.one; cases a
    exact call_len_str pins s σ H _ us Q I r ⟨_, rfl, q.1, cont_same c rS q.2 (.int _)⟩
  · cases hf
    obtain ⟨_, rfl, a⟩ := rs.one; cases a
    split at q
    · rename_i t kvs h
      cases t
      · obtain ⟨vs, h1, h2⟩ := (show ∃ vs, H _ = some (.dK vs) ∧ RepKV ⟨X.K, G.cls⟩ H kvs vs from rS _ _ h)
        exact call_lenD pins s σ H _ us Q I r ⟨_, _, rfl, h1, by rw [← h2.length]; exact cont_same c rS q (.int _)⟩
      · obtain ⟨vs, h1, h2⟩ := (show ∃ vs, H _ = some (.dT vs) ∧ RepKT ⟨X.K, G.cls⟩ H kvs vs from rS _ _ h)
        exact call_len_dT pins s σ H _ us Q I r ⟨_, _, rfl, h1, by rw [← h2.length]; exact cont_same c rS q (.int _)⟩
    · rename_i h
      obtain ⟨vs, h1, w⟩ := rS.isL (.inl h)
      exact call_len_seq pins s σ H _ us Q I r ⟨_, vs, rfl, .inl h1, by rw [← w.length]; exact cont_same c rS q (.int _)⟩
    · rename_i h
      obtain ⟨vs, h1, w⟩ := rS.isL (.inr h)
      exact call_len_seq pins s σ H _ us Q I r ⟨_, vs, rfl, .inl h1, by rw [← w.length]; exact cont_same c rS q (.int _)⟩
    · exact q.elim
  · cases hf
    obtain ⟨_, rfl, a⟩ := rs.one
    split at q
    · rename_i h
      obtain ⟨p, vs, rfl, h1, w⟩ := rS.seq a h
      exact call_len_seq pins s σ H _ us Q I r ⟨_, vs, rfl, h1, by rw [← w.length]; exact cont_same c rS q (.int _)⟩
    · exact q.elim
  · cases hf
    obtain ⟨_, _, rfl, a, b⟩ := rs.two; cases a; cases b
    exact call_max2 hc pins s σ H _ us Q I r ⟨_, _, rfl, cont_same c rS q (.int _)⟩
  · cases hf
    obtain ⟨_, _, rfl, a, b⟩ := rs.two; cases a; cases b
    exact call_min2 hc pins s σ H _ us Q I r ⟨_, _, rfl, cont_same c rS q (.int _)⟩
  · cases hf
    obtain ⟨_, rfl, a⟩ := rs.one
    split at q
    · rename_i h
      split at q
      · rename_i h2
        cases a
        obtain ⟨vs, h1, w⟩ := rS.isL (seq_ref h)
        rw [w.bls h2] at h1
        exact cr_all hc pins s σ H _ us Q I r ⟨_, _, rfl, h1, cont_same c rS q (.bl _)⟩
      · exact q.elim
    · exact q.elim
  · cases hf
    obtain ⟨_, rfl, a⟩ := rs.one
    split at q
    · rename_i h
      split at q
      · rename_i h2
        cases a
        obtain ⟨vs, h1, w⟩ := rS.isL (seq_ref h)
        rw [w.bls h2] at h1
        exact cr_any hc pins s σ H _ us Q I r ⟨_, _, rfl, h1, cont_same c rS q (.bl _)⟩
      · exact q.elim
    · exact q.elim
  · cases hf
    obtain ⟨_, rfl, a⟩ := rs.one
    split at q
    · rename_i h
      split at q
      · rename_i h2
        cases a
        obtain ⟨vs, h1, w⟩ := rS.isL (seq_ref h)
        rw [w.ints h2] at h1
        exact cr_sum hc pins s σ H _ us Q I r ⟨_, _, rfl, h1, cont_same c rS q (.int _)⟩
      · exact q.elim
    · exact q.elim
  · cases hf
    obtain ⟨_, rfl, a⟩ := rs.one
    split at q
    · rename_i h
      split at q
      · rename_i h2
        cases a
        obtain ⟨vs, h1, w⟩ := rS.isL (seq_ref h)
        rw [w.ints h2] at h1
        exact cr_max hc pins s σ H _ us Q I r ⟨_, _, rfl, h1, q.1, fun m m1 m2 => cont_same c rS (q.2 m m1 m2) (.int _)⟩
      · exact q.elim
    · exact q.elim
  · cases hf
    obtain ⟨_, rfl, a⟩ := rs.one
    split at q
    · rename_i h
      split at q
      · rename_i h2
        cases a
        obtain ⟨vs, h1, w⟩ := rS.isL (seq_ref h)
        rw [w.ints h2] at h1
        exact cr_min hc pins s σ H _ us Q I r ⟨_, _, rfl, h1, q.1, fun m m1 m2 => cont_same c rS (q.2 m m1 m2) (.int _)⟩
      · exact q.elim
    · exact q.elim
  · cases hf
    obtain ⟨_, rfl, a⟩ := rs.one; cases a
    exact call_int1 pins s σ H _ us Q I r (.inl ⟨_, rfl, cont_same c rS q (.int _)⟩)
  · cases hf
    obtain ⟨_, rfl, a⟩ := rs.one; cases a
    exact call_int1 pins s σ H _ us Q I r (.inr ⟨_, rfl, cont_same c rS q (.int _)⟩)
  · cases hf
    obtain ⟨_, rfl, a⟩ := rs.one; cases a
    split at q
    · rename_i h
      exact call_int_str pins s σ H _ us Q I r ⟨_, _, rfl, h, q.1, cont_same c rS q.2 (.int _)⟩
    · exact q.elim
  · cases hf
    obtain ⟨_, rfl, a⟩ := rs.one; cases a
    exact call_str_int pins s σ H _ us Q I r ⟨_, rfl, q.1, cont_same c rS q.2 (.str _)⟩
  · cases hf
    obtain ⟨_, rfl, a⟩ := rs.one
    obtain ⟨p, vs, rfl, h1, w⟩ := a.seqT (.inr (.inl rfl))
    exact call_tupleF pins s σ H _ us Q I r ⟨p, vs, rfl, .inr ⟨h1, cont_same c rS q a⟩⟩
  · cases hf
    obtain ⟨_, rfl, a⟩ := rs.one
    obtain ⟨p, vs, rfl, h1, w⟩ := a.seqT (.inr (.inr rfl))
    exact call_tupleF pins s σ H _ us Q I r ⟨p, vs, rfl, .inr ⟨h1, cont_same c rS q a⟩⟩
  · cases hf
    obtain ⟨_, rfl, a⟩ := rs.one
    split at q
    · rename_i h
      rcases seq_tuple h (by assumption) (by assumption) with rfl | ⟨n, rfl, h9⟩
      · obtain ⟨p, vs, rfl, h1, w⟩ := a.seqT (.inl rfl)
        exact call_tupleF pins s σ H _ us Q I r ⟨p, vs, rfl, .inr ⟨h1, cont_same c rS q a⟩⟩
      · cases a
        obtain ⟨vs, h1, w⟩ := rS.isL h9
        exact call_tupleF pins s σ H _ us Q I r ⟨_, vs, rfl, .inl ⟨h1, cont_tup c rS q w⟩⟩
    · exact q.elim
  · cases hf
    obtain ⟨_, rfl, a⟩ := rs.one
    split at q
    · rename_i h
      obtain ⟨p, vs, rfl, h1, w⟩ := rS.seq a h
      exact call_list_of pins s σ H _ us Q I r ⟨p, vs, rfl, h1, cont_new c rS q w⟩
    · split at q
      · cases a
        split at q
        · rename_i t kvs h
          cases t
          · obtain ⟨vs, h1, h2⟩ := (show ∃ vs, H _ = some (.dK vs) ∧ RepKV ⟨X.K, G.cls⟩ H kvs vs from rS _ _ h)
            exact call_list_dK hc pins s σ H _ us Q I r ⟨_, vs, rfl, h1, cont_new c rS q (kv_keys h2)⟩
          · obtain ⟨vs, h1, h2⟩ := (show ∃ vs, H _ = some (.dT vs) ∧ RepKT ⟨X.K, G.cls⟩ H kvs vs from rS _ _ h)
            exact call_list_dT hc pins s σ H _ us Q I r ⟨_, vs, rfl, .inl h1, fun p bs hp hb => cont_new c rS q (kt_keys h2 hb) p hp⟩
        · exact q.elim
      · exact q.elim
  · cases hf
  · cases hf
  · cases hf
  · cases hf
  · cases hf
  · cases hf
  · cases hf
    obtain ⟨_, rfl, a⟩ := rs.one
    split at q
    · rename_i h2
      obtain ⟨p, o, vs, rfl, h1, h3, w⟩ := a.sqT
      obtain ⟨as, kvs', rfl, z1, z2⟩ := pairs_of w h2 q.1
      exact call_dictF hc pins s σ H _ us Q I r ⟨p, as, kvs', rfl, .inr ⟨o, h3, h1⟩, z2, cont_dct c rS q.2 (mergeK_put .nil z1)⟩
    · exact q.elim
  · cases hf
    obtain ⟨_, rfl, a⟩ := rs.one
    split at q
    · rename_i h
      split at q
      · rename_i h2
        cases a
        obtain ⟨vs, h1, w⟩ := rS.isL (seq_ref h)
        obtain ⟨as, kvs', rfl, z1, z2⟩ := pairs_of w h2 q.1
        exact call_dictF hc pins s σ H _ us Q I r ⟨_, as, kvs', rfl, .inl h1, z2, cont_dct c rS q.2 (mergeK_put .nil z1)⟩
      · exact q.elim
    · split at q
      · rename_i h2
        cases a
        obtain ⟨vs, h1, w⟩ := rS _ _ h2
        obtain ⟨u, eu, rx⟩ := vals1 r
        subst eu
        cases rx
        exact d_copyOf I (.inl h1) fun p s' hp I' => ⟨.ref p, _, I', rfl, cont_dct c rS q w p hp⟩
      · exact q.elim
  · cases hf
    obtain ⟨_, rfl, a⟩ := rs.one
    split at q
    · rename_i h
      split at q
      · rename_i h2
        cases a
        obtain ⟨vs, h1, w⟩ := rS.isL (seq_ref h)
        rw [w.ints h2] at h1
        refine cr_sortedI pins s σ H _ us Q I r ⟨_, _, rfl, h1, fun ns' p pm rs hp => ?_⟩
        exact cont_new c rS (q ns' pm rs) (.ofInts ns') p hp
      · split at q
        · rename_i he
          obtain ⟨⟨hal, hk, hd, hL⟩, q⟩ := q
          cases a
          obtain ⟨vs, h1, w⟩ := rS.isL (seq_ref h)
          exact sortedD_r (G := ⟨X.K, G.cls⟩) hu I r h1 rS w he hal hk hd hL fun p ys hp ds' h3 h4 h5 => cont_new c rS (q ds' h3 h4) h5 p hp
        · exact q.elim
    · split at q
      · rename_i e
        split at q
        · rename_i hk
          obtain ⟨h64, hpos, q⟩ := q
          cases a
          obtain ⟨vs, h1, h2⟩ := (show ∃ vs, H _ = some (.dT vs) ∧ RepKT ⟨X.K, G.cls⟩ H _ vs from rS _ _ e)
          exact call_sortedDT hc pins s σ H _ us Q I r (sortedDT_r (G := ⟨X.K, G.cls⟩) h64 hpos hk h1 h2 fun p ys hp ps' h3 h4 h5 => cont_new c rS (q ps' h3 h4) h5 p hp)
        · exact q.elim
      · exact q.elim
  · cases hf
    obtain ⟨_, _, rfl, a, b⟩ := rs.two
    split at q
    · rename_i h
      obtain ⟨hn, ht, q⟩ := q
      split at q
      · rename_i h2
        obtain ⟨p, vs, rfl, h1, w⟩ := b.sqK
        exact call_isiT pins s σ H _ us Q I r ⟨_, p, vs, _, _, _, rfl, h1, isAny_cls w ht, tyOf_rep F (isAny_hk F hn h2) rS a h, isAny_kit F h2, cont_same c rS q (.bl _)⟩
      · exact q.elim
    · exact q.elim
  · cases hf
    obtain ⟨_, _, rfl, a, b⟩ := rs.two
    split at q
    · rename_i h
      split at q
      · rename_i h2
        exact call_isi pins s σ H _ us Q I r ⟨_, _, _, _, _, rfl, clsV_of b (isOne_cls h2), tyOf_rep F (isOne_kit F h2).2 rS a h, (isOne_kit F h2).1, cont_same c rS q (.bl _)⟩
      · exact q.elim
    · exact q.elim
  · exact q.elim

/-! ### methods -/
def bmId : Bm → Option (String × String)
  | .append => some ("append", "list.append")
  | .extend => some ("extend", "list.extend")
  | .pop0 => some ("pop", "list.pop")
  | .pop1 => some ("pop", "list.pop")
  | .clear => some ("clear", "list.clear")
  | .index => some ("index", "list.index")
  | .join => some ("join", "str.join")
  | .get1 => some ("get", "dict.get")
  | .get2 => some ("get", "dict.get")
  | .setdefault => some ("setdefault", "dict.setdefault")
  | .dclr => some ("clear", "dict.clear")
  | .split => some ("split", "str.split")
  | _ => none
def liftBm (G : GI) (r : D → List D → Sto → QE → Prop) : V → List V → Hp → VK → Prop := fun x xs H Q => ∃ d ds S Q0, RepV G H d x ∧ RepVs G H ds xs ∧ RepS G S H ∧ r d ds S Q0 ∧ Cont G Q0 H Q
theorem bmB_ty {m : Bm} {d : D} {v : V} {H : Hp} {S : Sto} (rS : RepS G S H) (r : RepV G H d v) (h : bmB m d S = true) : tyV G.K (bmT m) v H := by
  unfold bmB at h
  split at h
  · rename_i e; cases r; exact e
  · rename_i e
    cases r
    rw [e]
    split at h
    · rename_i h'
      obtain ⟨vs, h1, _⟩ := rS.isL (.inl h')
      exact .inl ⟨rfl, vs, h1⟩
    · rename_i h'
      obtain ⟨vs, h1, _⟩ := rS.isL (.inr h')
      exact .inl ⟨rfl, vs, h1⟩
    · cases h
  · rename_i e
    cases r
    rw [e]
    split at h
    · rename_i t kvs h'
      refine .inr (.inr (.inl ⟨rfl, ?_⟩))
      cases t
      · obtain ⟨vs, h1, _⟩ := (show ∃ vs, H _ = some (.dK vs) ∧ RepKV G H kvs vs from rS _ _ h')
        exact .inl ⟨vs, h1⟩
      · obtain ⟨vs, h1, _⟩ := (show ∃ vs, H _ = some (.dT vs) ∧ RepKT G H kvs vs from rS _ _ h')
        exact .inr ⟨vs, h1⟩
    · cases h
  · cases h
theorem cont_lst {Q0 : QE} {H : Hp} {Q : VK} {S : Sto} {a : Nat} {o : MO} {d : D} {v : V} {ds : List D} {vs : List V} (c : Cont G Q0 H Q) (rS : RepS G S H) (e : S a = some o) (q : Q0 d (S.put a (.lst ds))) (rv : RepV G H d v) (r : RepVs G H ds vs) : Q v (upd H a (.lst vs)) :=
  c _ _ _ _ q (TExt.write (rS.notup e)) (rS.write e ⟨vs, upd_same, r.mono (TExt.write (rS.notup e))⟩) (rv.mono (TExt.write (rS.notup e)))
theorem getLast_at {α : Type} {xs : List α} {x : α} (h : xs.getLast? = some x) : xs[xs.length - 1]? = some x := by
  rw [List.getLast?_eq_getElem?] at h; exact h
theorem optD {H : Hp} {o : Option D} {u : Option V} {d : D} {v : V} (h : OptRep G H o u) (r : RepV G H d v) : RepV G H (o.getD d) (u.getD v) := by
  cases o <;> cases u <;> first | exact r | exact h | exact h.elim

theorem mt_extT : MtR X "list.extend" (fun x vs H Q => ∃ l b xs zs, x = V.ref l ∧ vs = [V.ref b] ∧ H l = some (.lst xs) ∧ PT1 H b zs ∧ xs.length + zs.length ≤ sizeLine ∧ Q V.non (upd H l (.lst (xs ++ zs)))) := by
  intro pins s σ H x vs v us Q I rx rv h
  obtain ⟨l, b, xs, zs, rfl, rfl, hH, ⟨o, ho, hB⟩, hz, q⟩ := h
  cases rx
  obtain ⟨u, rfl, ru⟩ := vals1 rv
  cases ru
  obtain ⟨z, its, n, r, hl, e⟩ := I.lstM hH
  obtain ⟨e2, z2, its2, r2, o', e2', hc, n2, hdat⟩ := I.hok b _ hB
  rw [e2] at e2'; cases e2'
  obtain ⟨cls, dd, dat, sl⟩ := o
  obtain ⟨h1, h2⟩ := ho
  simp only at hc hdat h1 h2
  subst hc hdat h1 h2
  have hl2 := r2.length
  have hsz : its.toArray.size + its2.toArray.size ≤ sizeLine := by rw [List.size_toArray, List.size_toArray]; omega
  have hlong : ¬ (!its.toArray.isEmpty && Builtin.List.listTooLong (its.toArray.size + its2.toArray.size)) = true := by
    rw [notLongL hsz, Bool.and_false]
    exact Bool.false_ne_true
  refine call_meets F.slot_list_extend ⟨_, e, rfl⟩ F.entry_list_extend (F.args_list_extend_2 _ _)
    (AutoSeq1.list_extend_list_tuple_0 l its.toArray n b its2.toArray n2 hlong (by rw [List.size_toArray]; omega) (by omega)) ⟨e, e2, ?_⟩
  refine ⟨.non, _, I.lset (its' := its ++ its2) hH e (by simp) (r.append r2) ?_, rfl, q⟩
  rw [List.length_append]
  omega
theorem ixD_get : ∀ {ds : List D} {x : D} {j : Nat}, ixD x ds = some j → (∃ d, ds[j]? = some d ∧ eqF d x = true) ∧ ∀ (m : Nat) d, m < j → ds[m]? = some d → eqF d x = false
  | [], _, _, h => by cases h
  | d :: ds, x, j, h => by
    unfold ixD at h
    split at h
    · rename_i e
      cases h
      exact ⟨⟨d, rfl, e⟩, fun m d hm => by omega⟩
    · rename_i e
      obtain ⟨i, hi, rfl⟩ := Option.map_eq_some_iff.mp h
      obtain ⟨⟨d', h1, h2⟩, h3⟩ := ixD_get hi
      refine ⟨⟨d', by simpa using h1, h2⟩, fun m d0 hm e0 => ?_⟩
      cases m with
      | zero => cases e0; simpa using e
      | succ m => exact h3 m d0 (by omega) (by simpa using e0)
theorem flats_rep {H : Hp} : ∀ {ds : List D} {vs : List V}, RepVs G H ds vs → ds.all flatD = true → vs.all flatV = true
  | _, _, .nil, _ => rfl
  | _, _, .cons a w, h => by
    rw [List.all_cons, Bool.and_eq_true] at h ⊢
    exact ⟨(eqF_V a a h.1 h.1).2.1, flats_rep w h.2⟩
theorem RepVs.back {H : Hp} {ds : List D} {vs : List V} (w : RepVs G H ds vs) {m : Nat} {v : V} (h : vs[m]? = some v) : ∃ d, ds[m]? = some d ∧ RepV G H d v := by
  have hl := w.length
  have hm := (List.getElem?_eq_some_iff.mp h).1
  have hd : ds[m]? = some ds[m] := List.getElem?_eq_getElem (by omega)
  obtain ⟨u, h1, h2⟩ := w.get hd
  rw [h] at h1; cases h1
  exact ⟨_, hd, h2⟩
theorem op_bm (hu : X.A.units + 1 < cLine) {m : Bm} {n id : String} (hm : bmId m = some (n, id)) : MtR X id (liftBm ⟨X.K, G.cls⟩ (bmM m)) := by
  intro pins s σ H x xs v us Q I rx rs ⟨d, ds, S, Q0, rd, rr, rS, q, c⟩
  unfold bmM at q
  split at q
  · cases hm
    cases rd
    obtain ⟨_, rfl, a⟩ := rr.one
    split at q
    · rename_i h
      obtain ⟨vs, h1, w⟩ := rS.lst h
      exact mt_append pins s σ H _ _ v us Q I rx rs ⟨_, vs, _, rfl, rfl, h1, by rw [← w.length]; exact q.1, cont_lst c rS h q.2 .non (w.snoc a)⟩
    · exact q.elim
  · cases hm
    cases rd
    obtain ⟨_, rfl, a⟩ := rr.one
    split at q
    · rename_i h
      obtain ⟨vs, h1, w⟩ := rS.lst h
      split at q
      · rename_i d1 _ _ h2
        unfold extOf at h2
        split at h2
        · cases h2
          obtain ⟨p, o, vs2, rfl, h3, h4, w2⟩ := a.sqT
          exact mt_extT pins s σ H _ _ v us Q I rx rs ⟨_, p, vs, vs2, rfl, rfl, h1, ⟨o, h4, h3⟩, by rw [← w.length, ← w2.length]; exact q.1, cont_lst c rS h q.2 .non (w.append w2)⟩
        · split at h2
          · cases h2
            rename_i h5
            cases a
            obtain ⟨vs2, h3, w2⟩ := rS.lst h5
            exact mt_extend pins s σ H _ _ v us Q I rx rs ⟨_, _, vs, vs2, rfl, rfl, h1, h3, by rw [← w.length, ← w2.length]; exact q.1, cont_lst c rS h q.2 .non (w.append w2)⟩
          · cases h2
        · cases h2
      · exact q.elim
    · exact q.elim
  · cases hm
    cases rd
    cases rr
    split at q
    · rename_i h
      obtain ⟨vs, h1, w⟩ := rS.lst h
      split at q
      · rename_i h2
        obtain ⟨u, h3, h4⟩ := w.get (getLast_at h2)
        rw [w.length] at h3
        exact mt_pop pins s σ H _ _ v us Q I rx rs ⟨_, vs, u, rfl, rfl, h1, h3, cont_lst c rS h q h4 w.dropLast⟩
      · exact q.elim
    · exact q.elim
  · cases hm
    cases rd
    obtain ⟨_, rfl, a⟩ := rr.one
    cases a
    split at q
    · rename_i h
      obtain ⟨vs, h1, w⟩ := rS.lst h
      split at q
      · rename_i h2
        split at q
        · rename_i h3
          obtain ⟨u, h4, h5⟩ := w.get h3
          rw [w.length] at h2
          obtain ⟨i1, i2, i3, i4⟩ := ixN_seq h2
          have hz := (I.lstM h1).1
          have hn := line63
          exact mt_popAt pins s σ H _ _ v us Q I rx rs ⟨_, vs, _, _, u, rfl, rfl, h1, by omega, by omega, i1, h4, cont_lst c rS h q h5 (w.eraseIdx _)⟩
        · exact q.elim
      · exact q.elim
    · exact q.elim
  · cases hm
    cases rd
    cases rr
    split at q
    · rename_i h
      obtain ⟨vs, h1, w⟩ := rS.lst h
      exact mt_clear pins s σ H _ _ v us Q I rx rs ⟨_, vs, rfl, rfl, h1, cont_lst c rS h q .non .nil⟩
    · exact q.elim
  · cases hm
    cases rd
    cases rr
    split at q
    · rename_i h
      obtain ⟨vs, h1, w⟩ := (show ∃ vs, H _ = some (.dK vs) ∧ RepKV ⟨X.K, G.cls⟩ H _ vs from rS _ _ h)
      cases (show v = Value.ref _ from rx)
      cases rs
      exact d_clear I h1 fun s' I' => ⟨.non, _, I', rfl, c _ _ _ _ q (TExt.write (rS.notup h)) (rS.write h ⟨_, upd_same, .nil⟩) .non⟩
    · exact q.elim
  · cases hm
    cases rd
    obtain ⟨_, rfl, a⟩ := rr.one
    split at q
    · rename_i h
      obtain ⟨p, vs, rfl, h1, w⟩ := rS.seq a h
      split at q
      · rename_i h2
        rw [w.strs h2] at h1
        exact mt_join pins s σ H _ _ v us Q I rx rs ⟨_, p, _, rfl, rfl, h1, q.1, cont_same c rS q.2 (.str _)⟩
      · exact q.elim
    · exact q.elim
  · cases hm
    cases rd
    obtain ⟨_, rfl, a⟩ := rr.one
    split at q
    · rename_i ds h
      obtain ⟨vs, h1, w⟩ := rS.isL (.inl h)
      obtain ⟨hf, q⟩ := q
      rw [Bool.and_eq_true] at hf
      split at q
      · rename_i j hj
        obtain ⟨⟨d0, h2, h3⟩, h4⟩ := ixD_get hj
        obtain ⟨u, h5, h6⟩ := w.get h2
        have fd : ∀ {m : Nat} {d : D}, ds[m]? = some d → flatD d = true := fun e => List.all_eq_true.mp hf.1 _ (List.mem_of_getElem? e)
        refine mt_index pins s σ H _ _ v us Q I rx rs ⟨_, vs, _, j, u, rfl, rfl, h1, (eqF_V a a hf.2 hf.2).2.1, flats_rep w hf.1, h5, ?_, fun m z hm hz => ?_, cont_same c rS q (.int _)⟩
        · rw [(eqF_V h6 a (fd h2) hf.2).1]; exact h3
        · obtain ⟨d1, e1, r1⟩ := w.back hz
          rw [(eqF_V r1 a (fd e1) hf.2).1]
          exact h4 m d1 hm e1
      · exact q.elim
    · exact q.elim
  · cases hm
    cases rd
    obtain ⟨_, rfl, a⟩ := rr.one
    split at q
    · rename_i h
      obtain ⟨o, g, hr⟩ := dget_of rS h q.1 a
      cases (show v = Value.ref _ from rx)
      obtain ⟨iv, rfl, ri⟩ := vals1 rs
      exact d_get1 hu I g ri fun w' s4 I4 rw' => ⟨_, H, I4, rw', cont_same c rS q.2 (optD hr .non)⟩
    · exact q.elim
  · cases hm
    cases rd
    obtain ⟨_, _, rfl, a, b⟩ := rr.two
    split at q
    · rename_i h
      obtain ⟨o, g, hr⟩ := dget_of rS h q.1 a
      cases (show v = Value.ref _ from rx)
      obtain ⟨iv, fv, rfl, ri, rf⟩ := vals2 rs
      exact d_get2 hu I g ri rf fun w' s4 I4 rw' => ⟨_, H, I4, rw', cont_same c rS q.2 (optD hr b)⟩
    · exact q.elim
  · cases hm
    cases rd
    obtain ⟨_, _, rfl, a, b⟩ := rr.two
    split at q
    · rename_i kvs h
      obtain ⟨hk, hz, q⟩ := q
      cases (show v = Value.ref _ from rx)
      obtain ⟨iv, fv, rfl, ri, rf⟩ := vals2 rs
      rcases key_cases hk with ⟨_, k, rfl⟩ | ⟨z, _⟩
      · obtain ⟨vs, h1, h2⟩ := (show ∃ vs, H _ = some (.dK vs) ∧ RepKV ⟨X.K, G.cls⟩ H kvs vs from rS _ _ h)
        have hr := look_kv k h2
        have hkv := kD_V a
        subst hkv
        have nt : ∀ o, TExt H (upd H _ o) := fun o => TExt.write (rS.notup h)
        refine d_setd I h1 ri rf (by rw [← h2.length]; exact hz) (fun z hv w' s' I' r' => ?_) (fun hn w' s' I' r' => ?_)
        · rw [hv] at hr
          split at q
          · rename_i h3
            rw [h3] at hr
            exact ⟨z, H, I', r', cont_same c rS q hr⟩
          · rename_i h3
            rw [h3] at hr
            exact hr.elim
        · rw [hn] at hr
          split at q
          · rename_i h3
            rw [h3] at hr
            exact hr.elim
          · exact ⟨_, _, I', r', c _ _ _ _ q (nt _) (rS.write h ⟨_, upd_same, (put_kv k b h2).mono (nt _)⟩) (b.mono (nt _))⟩
      · cases z
    · exact q.elim
  · cases hm
    cases rd
    obtain ⟨_, rfl, a⟩ := rr.one
    cases a
    exact mt_split pins s σ H _ _ v us Q I rx rs ⟨_, _, rfl, rfl, q.1, q.2.1, by
      have := cont_new c rS q.2.2 (vs := ((Txt.split _ _).map V.str)) (RepVs.ofStrs _)
      exact this⟩
  · exact q.elim
end Lr

set_option Elab.async false
set_option linter.all false
set_option maxRecDepth 100000
set_option maxHeartbeats 2000000
/-! part 5: when a Python expression is one of the small syntax -/
namespace Lr
open PySem PySem.Spec PyProof.Rows L2
def isVis (sc : Scope) (x : Str) : Bool := match sc.names.lookup x with
  | some .local => true
  | some .cell => true
  | some .free => true
  | _ => false
def isGl (sc : Scope) (x : Str) : Bool := match sc.names.lookup x with
  | some .globalImplicit => true
  | _ => false
def isLoc (sc : Scope) (fb : Str → Bool) (x : Str) : Bool := match sc.names.lookup x with
  | some .local => true
  | some .cell => fb x
  | _ => false
def isL0 (sc : Scope) (x : Str) : Bool := match sc.names.lookup x with
  | some .local => true
  | _ => false
def noStar : Expr → Bool
  | .Starred .. => false
  | _ => true
def noSlice : Expr → Bool
  | .Slice .. => false
  | _ => true
def noTest : Expr → Bool
  | .UnaryOp .Not .. => false
  | .BoolOp .. => false
  | .IfExp .. => false
  | .Compare .. => false
  | _ => true
def noComp : Expr → Bool
  | .ListComp .. => false
  | .SetComp .. => false
  | .DictComp .. => false
  | _ => true
def noSet : Expr → Bool
  | .Set .. => false
  | _ => true
def noCall0 : Expr → Bool
  | .Call (.Name _ _) [] [] _ => false
  | _ => true
def opEq : Op2 → Operator → Bool
  | .add, .Add => true
  | .sub, .Sub => true
  | .mul, .Mult => true
  | .mod, .Mod => true
  | .fdiv, .FloorDiv => true
  | .pow, .Pow => true
  | _, _ => false
def cmpEq : Cmp → CmpOp → Bool
  | .eq, .Eq => true
  | .ne, .NotEq => true
  | .lt, .Lt => true
  | .le, .LtE => true
  | .gt, .Gt => true
  | .ge, .GtE => true
  | .is, .Is => true
  | .isn, .IsNot => true
  | .mem, .In => true
  | .nmem, .NotIn => true
  | _, _ => false
theorem opEq_of {o : Op2} {p : Operator} (h : opEq o p = true) : p = opOf o := by
  cases o <;> cases p <;> simp [opEq] at h <;> rfl
theorem cmpEq_of {o : Cmp} {p : CmpOp} (h : cmpEq o p = true) : p = cmpOf o := by
  cases o <;> cases p <;> simp [cmpEq] at h <;> rfl
def okName (x : Str) : Bool := !(x == ("__debug__" : Str)) && !(x == ("__classdict__" : Str)) && !(x == ("__name__" : Str))
def relab (scope sc : Scope) : Scope := { scope with names := scope.names.map fun (n, k) => if (k == .free && sc.kind == .function && sc.names.lookup n == some .cell) then (n, .cell) else (n, k) }
def ownP (N : List Str) (own : List Nat) : List (Str × Nat) := own.map fun i => ((N[i]?).getD Str.empty, i)
/-- what makes pairs is taken apart at once -/
def isTupT : I → Expr → Bool
  | .enu _, .Tuple .. => true
  | .zip _ _, .Tuple .. => true
  | .seq _, _ => true
  | .rng _, _ => true
  | .rev _, _ => true
  | _, _ => false
/-! the slots of a target of names -/
mutual
def tgSlots : Tg → Option (List Nat)
  | .nm i => some [i]
  | .tp ts => tgsSlots ts
  | .ix _ _ => some []
  | .at _ _ => some []
def tgsSlots : Tgs → Option (List Nat)
  | .nil => some []
  | .cons t r => match tgSlots t, tgsSlots r with
    | some a, some b => some (a ++ b)
    | _, _ => none
end
def subL (a : Option (List Nat)) (b : List Nat) : Bool := match a with
  | some l => l.all fun i => b.contains i
  | none => false
def oneTwo : List Expr → Bool
  | [_] => true
  | [_, _] => true
  | [_, _, _] => true
  | _ => false
/-- a dict display's keys and values by turns -/
def flatKV : List (Option Expr) → List Expr → Option (List Expr)
  | [], [] => some []
  | some k :: ks, v :: vs => (flatKV ks vs).map fun l => k :: v :: l
  | _, _ => none
def bfIs (f : Bf) (x : Str) : Bool := match bfV f with
  | some (n, _) => x == Str.ofString n
  | none => false
def bmIs (m : Bm) (x : Str) : Bool := match bmId m with
  | some (n, _) => x == Str.ofString n
  | none => false
/-- the stores of a tuple's names, when the model swaps them -/
def swapNames (sc : Scope) (ts vs : List Expr) : Option (Option (List Str)) :=
  if !(ts.length == 2 || ts.length == 3) || vs.length != ts.length then some none
  else if vs.any (fun | .Starred .. => true | _ => false) then some none
  else
    let line := (ts.head?.map (·.pos.line)).getD 0
    let names := ts.filterMap fun
      | .Name id pos => if sc.names.lookup id == some .local && pos.line == line then some id else none
      | _ => none
    if names.length != ts.length || names.eraseDups.length != names.length then some none
    else if vs.all (foldedForSure 8) then some none
    else if vs.all (constantsAlone 8) then none
    else some (some names)
def mPar (N : List Str) (sc : Scope) : Tgs → List Expr → List Expr → List Str → Bool
  | .cons (.nm i) (.cons (.nm j) .nil), [.Name x _, .Name y _], [_, _], [a, b] => a == x && b == y && (N[i]? == some x) && (N[j]? == some y) && isL0 sc x && isL0 sc y && !(i == j)
  | .cons (.nm i) (.cons (.nm j) (.cons (.nm l) .nil)), [.Name x _, .Name y _, .Name z _], [_, _, _], [a, b, c] => a == x && b == y && c == z && (N[i]? == some x) && (N[j]? == some y) && (N[l]? == some z) && isL0 sc x && isL0 sc y && isL0 sc z && !(i == j) && !(i == l) && !(j == l)
  | _, _, _, _ => false
section
variable (N : List Str)
mutual
def mE : E → Scope → (Str → Bool) → Expr → Bool
  | .var i, sc, _, .Name x _ => N[i]? == some x && isVis sc x && okName x
  | .glb n, sc, _, .Name x _ => (x == Str.ofString n) && isGl sc x && okName x
  | .int i, _, _, .Constant (.int j) _ _ => i == j
  | .bl i, _, _, .Constant (.bool j) _ _ => i == j
  | .str i, _, _, .Constant (.str j) _ _ => Str.ofString i == j
  | .non, _, _, .Constant .none _ _ => true
  | .bin o a b, sc, fb, .BinOp l op r _ => opEq o op && mE a sc fb l && mE b sc fb r
  | .neg a, sc, fb, .UnaryOp .USub e _ => mE a sc fb e
  | .not a, sc, fb, .UnaryOp .Not e _ => mE a sc fb e
  | .cmp o a b, sc, fb, .Compare l [op] [r] _ => cmpEq o op && noSet r && mE a sc fb l && mE b sc fb r
  | .chn o p a b c, sc, fb, .Compare l [op, op'] [r, s] _ => cmpEq o op && cmpEq p op' && noSet r && noSet s && mE a sc fb l && mE b sc fb r && mE c sc fb s
  | .bop k es, sc, fb, .BoolOp op vs _ => (match op with | .And => k | .Or => !k) && mEs es sc fb vs
  | .ite c a b, sc, fb, .IfExp t e f _ => mT c sc fb t && mE a sc fb e && mE b sc fb f
  | .tup es, sc, fb, .Tuple vs _ _ => decide (vs.length ≤ 1000) && mEs es sc fb vs
  | .key es, sc, fb, .Tuple vs _ _ => decide (vs.length ≤ 1000) && mEs es sc fb vs
  | .lst es, sc, fb, .List vs _ => decide (vs.length ≤ 1000) && mEs es sc fb vs
  | .dnew _, _, _, .Dict [] [] _ => true
  | .dit a b, sc, fb, .Dict [some k] [v] _ => mE a sc fb k && mE b sc fb v
  | .idx a b, sc, fb, .Subscript v i _ => noSlice i && mE a sc fb v && mE b sc fb i
  | .sli a lo hi, sc, fb, .Subscript v (.Slice l h none _) _ => mE a sc fb v && mO lo sc fb l && mO hi sc fb h
  | .slr a, sc, fb, .Subscript v (.Slice none none (some (.UnaryOp .USub (.Constant (.int n) _ _) _)) _) _ => n == 1 && mE a sc fb v
  | .cal f es, sc, fb, .Call (.Name x _) vs [] _ => (x == Str.ofString f) && isGl sc x && okName x && mEs es sc fb vs
  | .met _ m _ o es, sc, fb, .Call (.Attribute v x ap) vs [] cp => (x == Str.ofString m) && noCall0 v && (ap.endLine == cp.line) && decide (vs.length < 30) && mE o sc fb v && mEs es sc fb vs
  | .mak c _ es, sc, fb, .Call (.Name x _) vs [] _ => (x == Str.ofString c) && isGl sc x && okName x && mEs es sc fb vs
  | .blt f es, sc, fb, .Call (.Name x _) vs [] _ => bfIs f x && isGl sc x && okName x && !vs.isEmpty && mEs es sc fb vs
  | .bm m o es, sc, fb, .Call (.Attribute v x ap) vs [] cp => bmIs m x && noCall0 v && (ap.endLine == cp.line) && decide (vs.length < 30) && mE o sc fb v && mEs es sc fb vs
  | .fld o f, sc, fb, .Attribute v x _ => (x == Str.ofString f) && !(f == "") && noCall0 v && mE o sc fb v
  | .lc el tg it cs own, sc, fb, .ListComp e [⟨t, i, ifs, as⟩] scope _ => as == 0 && noSet i && mI it sc fb i && blkC N sc scope (ownP N own) && subL (tgSlots tg) own && isTupT it t &&
      mG tg (relab scope sc) (fun x => scope.names.lookup x == some .cell) t && mCs cs (relab scope sc) (fun x => scope.names.lookup x == some .cell) ifs && mE el (relab scope sc) (fun x => scope.names.lookup x == some .cell) e
  | .lr1 a, sc, fb, .Call (.Name x _) [.Call (.Name y _) [v] [] _] [] _ => (x == ("list" : Str)) && (y == ("range" : Str)) && isGl sc x && isGl sc y && noStar v && mE a sc fb v
  | .lr2 a b, sc, fb, .Call (.Name x _) [.Call (.Name y _) [v, w] [] _] [] _ => (x == ("list" : Str)) && (y == ("range" : Str)) && isGl sc x && isGl sc y && noStar v && noStar w && mE a sc fb v && mE b sc fb w
  | .tr1 a, sc, fb, .Call (.Name x _) [.Call (.Name y _) [v] [] _] [] _ => (x == ("tuple" : Str)) && (y == ("range" : Str)) && isGl sc x && isGl sc y && noStar v && mE a sc fb v
  | .tr2 a b, sc, fb, .Call (.Name x _) [.Call (.Name y _) [v, w] [] _] [] _ => (x == ("tuple" : Str)) && (y == ("range" : Str)) && isGl sc x && isGl sc y && noStar v && noStar w && mE a sc fb v && mE b sc fb w
  | .dls es, sc, fb, .Dict ks vs _ => (match flatKV ks vs with
    | some l => !l.isEmpty && decide (ks.length ≤ 15) && mEs es sc fb l
    | none => false)
  | .ceq _ _ a b, sc, fb, .Compare l [.Eq] [r] _ => noSet r && mE a sc fb l && mE b sc fb r
  | .clen _ _ a, sc, fb, .Call (.Name x _) [v] [] _ => (x == ("len" : Str)) && isGl sc x && noStar v && mE a sc fb v
  | .cstr _ _ a, sc, fb, .Call (.Name x _) [v] [] _ => (x == ("str" : Str)) && isGl sc x && noStar v && mE a sc fb v
  | .fmt a, sc, fb, .FormattedValue v cv none _ => (cv == -1) && mE a sc fb v
  | .fst es, sc, fb, .JoinedStr (v1 :: v2 :: vs) _ => mEs es sc fb (v1 :: v2 :: vs)
  | .cak f es z e, sc, fb, .Call (.Name x _) vs [⟨some y, w, _⟩] _ => (x == Str.ofString f) && isGl sc x && okName x && (y == Str.ofString z) && !vs.isEmpty && mEs es sc fb vs && mE e sc fb w
  | .mek _ m _ o z e, sc, fb, .Call (.Attribute v x ap) [] [⟨some y, w, _⟩] cp => (x == Str.ofString m) && noCall0 v && (ap.endLine == cp.line) && (y == Str.ofString z) && mE o sc fb v && mE e sc fb w
  | .cald f es, sc, fb, .Call (.Name x _) vs [] _ => (x == Str.ofString f) && isGl sc x && okName x && mEs es sc fb vs
  | .lrv a, sc, fb, .Call (.Name x _) [.Call (.Name y _) [v] [] _] [] _ => (x == ("list" : Str)) && (y == ("reversed" : Str)) && isGl sc x && isGl sc y && noStar v && mE a sc fb v
  | .lzp a b, sc, fb, .Call (.Name x _) [.Call (.Name y _) [v, w] [] _] [] _ => (x == ("list" : Str)) && (y == ("zip" : Str)) && isGl sc x && isGl sc y && noStar v && noStar w && mE a sc fb v && mE b sc fb w
  | .mxd a b, sc, fb, .Call (.Name x _) [v] [⟨some y, w, _⟩] _ => (x == ("max" : Str)) && (y == ("default" : Str)) && isGl sc x && noStar v && mE a sc fb v && mE b sc fb w
  | .lit a, sc, fb, .Call (.Name x _) [.Call (.Attribute v y ap) [] [] cp] [] _ => (x == ("list" : Str)) && (y == ("items" : Str)) && isGl sc x && noCall0 v && (ap.endLine == cp.line) && mE a sc fb v
  | _, _, _, _ => false
def mEs : Es → Scope → (Str → Bool) → List Expr → Bool
  | .nil, _, _, [] => true
  | .cons e r, sc, fb, v :: vs => noStar v && mE e sc fb v && mEs r sc fb vs
  | _, _, _, _ => false
def mO : Oe → Scope → (Str → Bool) → Option Expr → Bool
  | .no, _, _, none => true
  | .so e, sc, fb, some v => mE e sc fb v
  | _, _, _, _ => false
def mT : Tt → Scope → (Str → Bool) → Expr → Bool
  | .not a, sc, fb, .UnaryOp .Not e _ => mT a sc fb e
  | .bop k ts, sc, fb, .BoolOp op vs _ => (match op with | .And => k | .Or => !k) && mTs ts sc fb vs
  | .cmp o a b, sc, fb, .Compare l [op] [r] _ => cmpEq o op && noSet r && mE a sc fb l && mE b sc fb r
  | .chn o p a b c, sc, fb, .Compare l [op, op'] [r, s] _ => cmpEq o op && cmpEq p op' && noSet r && noSet s && mE a sc fb l && mE b sc fb r && mE c sc fb s
  | .ceq _ _ a b, sc, fb, .Compare l [.Eq] [r] _ => noSet r && mE a sc fb l && mE b sc fb r
  | .tru e, sc, fb, v => noTest v && mE e sc fb v
  | _, _, _, _ => false
def mTs : Tts → Scope → (Str → Bool) → List Expr → Bool
  | .nil, _, _, [] => true
  | .cons e r, sc, fb, v :: vs => mT e sc fb v && mTs r sc fb vs
  | _, _, _, _ => false
def mCs : Tts → Scope → (Str → Bool) → List Expr → Bool
  | .nil, _, _, [] => true
  | .cons e .nil, sc, fb, [v] => mT e sc fb v
  | _, _, _, _ => false
def mG : Tg → Scope → (Str → Bool) → Expr → Bool
  | .nm i, sc, fb, .Name x _ => N[i]? == some x && isLoc sc fb x
  | .tp ts, sc, fb, .Tuple vs _ _ => mGs ts sc fb vs
  | .ix o i, sc, fb, .Subscript v j _ => noSlice j && mE o sc fb v && mE i sc fb j
  | .at o f, sc, fb, .Attribute v x _ => false
  | _, _, _, _ => false
def mGs : Tgs → Scope → (Str → Bool) → List Expr → Bool
  | .nil, _, _, [] => true
  | .cons t r, sc, fb, v :: vs => noStar v && mG t sc fb v && mGs r sc fb vs
  | _, _, _, _ => false
def mI : I → Scope → (Str → Bool) → Expr → Bool
  | .seq e, sc, fb, v => mE e sc fb v
  | .rng es, sc, fb, .Call (.Name x _) vs [] _ => (x == ("range" : Str)) && isGl sc x && oneTwo vs && mEs es sc fb vs
  | .enu e, sc, fb, .Call (.Name x _) [v] [] _ => (x == ("enumerate" : Str)) && isGl sc x && noStar v && mE e sc fb v
  | .rev e, sc, fb, .Call (.Name x _) [v] [] _ => (x == ("reversed" : Str)) && isGl sc x && noStar v && mE e sc fb v
  | .zip a b, sc, fb, .Call (.Name x _) [v, u] [] _ => (x == ("zip" : Str)) && isGl sc x && noStar v && noStar u && mE a sc fb v && mE b sc fb u
  | _, _, _, _ => false
end
/-- a comprehension on the line of its name -/
def lcLine (sc : Scope) (x : Str) (px : Pos) : Expr → Bool
  | .ListComp _ _ scope pl => isL0 sc x && (px.line == pl.line) && !(scope.names.any fun (n, k) => n == x && (k == .local || k == .cell))
  | _ => false
def lcCell (sc : Scope) (x : Str) : Expr → Bool
  | .ListComp .. => sc.names.lookup x == some .cell
  | _ => false
def mTup (ts : Tgs) (e : E) (sc : Scope) (fb : Str → Bool) (tvs : List Expr) (tg : Expr) (vs : List Expr) (v : Expr) : Bool :=
  match swapNames sc tvs vs with
  | some none => mE N e sc fb v && mG N (.tp ts) sc fb tg
  | some (some ns) => (match e with
    | .tup es => mEs N es sc fb vs && mPar N sc ts tvs vs ns
    | _ => false)
  | none => false
def mAsg (t : Tg) (e : E) (sc : Scope) (fb : Str → Bool) (tg v : Expr) (line : Nat) : Bool :=
  match t, tg with
  | .nm i, .Name x px => N[i]? == some x && isLoc sc fb x && mE N e sc fb v && (noComp v || lcLine sc x px v || lcCell sc x v)
  | .at o f, .Attribute w x _ => (x == Str.ofString f) && !(f == "") && noComp v && mE N o sc fb w && mE N e sc fb v
  | .tp ts, .Tuple tvs _ _ => (match v with
    | .Tuple vs _ _ => mTup N ts e sc fb tvs tg vs v
    | _ => noComp v && mE N e sc fb v && mG N t sc fb tg)
  | .ix _ _, .Subscript _ _ _ => noComp v && mG N t sc fb tg && mE N e sc fb v
  | _, _ => false
mutual
def mS : St1 → Scope → (Str → Bool) → Stmt → Bool
  | .rse, _, _, .Raise _ _ _ => true
  | .set t e, sc, fb, .Assign [tg] v p => mAsg N t e sc fb tg v p.line
  | .aug i o e, sc, fb, .AugAssign (.Name x _) op v _ => N[i]? == some x && isLoc sc fb x && opEq o op && mE N e sc fb v
  | .fla o f p e, sc, fb, .AugAssign (.Attribute w x _) op v _ => (x == Str.ofString f) && !(f == "") && opEq p op && mE N o sc fb w && mE N e sc fb v
  | .exp e, sc, fb, .Expr v _ => noComp v && mE N e sc fb v
  | .ret e, sc, fb, .Return (some v) _ => mE N e sc fb v
  | .retN, _, _, .Return none _ => true
  | .pas, _, _, .Pass _ => true
  | .brk, _, _, .Break _ => true
  | .cnt, _, _, .Continue _ => true
  | .iff c a b, sc, fb, .If t u w _ => mT N c sc fb t && mSs a sc fb u && mSs b sc fb w
  | .whl c b, sc, fb, .While t u [] _ => mT N c sc fb t && mSs b sc fb u
  | .for_ t i b, sc, fb, .For tg it u [] _ => noSet it && mI N i sc fb it && isTupT i tg && mG N t sc fb tg && mSs b sc fb u
  | _, _, _, _ => false
def mSs : Sts → Scope → (Str → Bool) → List Stmt → Bool
  | .nil, _, _, [] => true
  | .cons s r, sc, fb, v :: vs => mS s sc fb v && mSs r sc fb vs
  | _, _, _, _ => false
end
end
end Lr

set_option Elab.async false
set_option linter.all false
set_option maxRecDepth 100000
set_option maxHeartbeats 4000000
/-! part 6: the small syntax's wishes are readings -/
namespace Lr
open PySem PySem.Spec PyProof.Rows L2
def xN : XE := fun _ _ => False
/-- what a def of the text promises -/
def liftSp (G : GI) (P : Prog) (k : Nat) (w : Wh) (f : String) : Sp := fun vs H Q _ => ∃ ds S Q0, RepVs G H ds vs ∧ RepS G S H ∧ wpCall P k w f ds S Q0 xN ∧ Cont G Q0 H Q
def bNames : List String := ["len", "max", "min", "all", "any", "sum", "sorted", "isinstance", "int", "str", "tuple", "list", "dict", "range", "enumerate", "zip", "reversed"]
def FnR (P : Prog) (cls : String → Addr) (k : Nat) (X : L2.Cx) (f : String) : Wh → Prop
  | .pl => ∃ fa fdd ps, FnOk X.prog X.w X.K X.mg X.base CX0 (2 * k) fa fdd ps (liftSp ⟨X.K, cls⟩ P k .pl f) ∧ X.mg (Str.ofString f) = some (.ref fa) ∧ PySem.W.keepIn X.K (.ref fa) = true ∧ Binds X.K fdd ps []
  | .mt c m => ∃ fa fdd ps, FnOk X.prog X.w X.K X.mg X.base CX0 (2 * k) fa fdd ps (liftSp ⟨X.K, cls⟩ P k (.mt c m) f) ∧ Meth X.K (cls c) (Str.ofString m) fa ∧ Cls X.K (cls c) ∧ Binds X.K fdd ps [] ∧ P.fl c m = false
  | .it c => ∃ fa fdd ps, FnOk X.prog X.w X.K X.mg X.base CX0 (2 * k) fa fdd ps (liftSp ⟨X.K, cls⟩ P k (.it c) f) ∧ Mk X.K (cls c) fa ∧ X.mg (Str.ofString c) = some (.ref (cls c)) ∧ Binds X.K fdd ps []
/-- a def with defaults, called without them -/
def FnD (P : Prog) (cls : String → Addr) (k : Nat) (X : L2.Cx) (f : String) : Prop :=
  ∃ fa fdd ps dv us, FnOk X.prog X.w X.K X.mg X.base CX0 (2 * k) fa fdd ps (liftSp ⟨X.K, cls⟩ P k .pl f) ∧ X.mg (Str.ofString f) = some (.ref fa) ∧ PySem.W.keepIn X.K (.ref fa) = true ∧ Binds X.K fdd ps us ∧ Vals dv us ∧ ∀ H, RepVs ⟨X.K, cls⟩ H (P.df f) dv
/-- a def called with its last parameter by name -/
def FnK (P : Prog) (cls : String → Addr) (k : Nat) (X : L2.Cx) (f z : String) : Wh → Prop
  | .pl => ∃ fa fdd ps n, FnOk X.prog X.w X.K X.mg X.base CX0 (2 * k) fa fdd ps (liftSp ⟨X.K, cls⟩ P k .pl f) ∧ X.mg (Str.ofString f) = some (.ref fa) ∧ PySem.W.keepIn X.K (.ref fa) = true ∧ ps.length = n + 1 ∧ KBn X.K fdd ps n [Str.ofString z] (fun us ws => us ++ ws) (fun us ws => us ++ ws)
  | .mt c m => ∃ fa fdd ps n, FnOk X.prog X.w X.K X.mg X.base CX0 (2 * k) fa fdd ps (liftSp ⟨X.K, cls⟩ P k (.mt c m) f) ∧ Meth X.K (cls c) (Str.ofString m) fa ∧ Cls X.K (cls c) ∧ ps.length = n + 1 ∧ KBn X.K fdd ps n [Str.ofString z] (fun us ws => us ++ ws) (fun us ws => us ++ ws)
  | .it _ => False
structure Ok (P : Prog) (cls : String → Addr) (k : Nat) (X : L2.Cx) : Prop where
  calm : X.calm = true
  room : Room (2 * k + 1) X.A
  nd : X.N.Nodup
  clsF : ClsF ⟨X.K, cls⟩ P.fl
  gl : ∀ n d, P.gl n = some d → ∃ v u, (X.mg (Str.ofString n) = some u ∨ (X.mg (Str.ofString n) = none ∧ bootBuiltins (Str.ofString n) = some u)) ∧ RelV v u ∧ ∀ H, RepV ⟨X.K, cls⟩ H d v
  bl : ∀ n ∈ bNames, X.mg (Str.ofString n) = none
  fns : ∀ f fd, P.fn f = some fd → FnR P cls k X f fd.own
  fnd : ∀ f fd, P.fn f = some fd → fd.own = .pl → P.df f ≠ [] → FnD P cls k X f
  fnk : ∀ f z, P.kw f = some z → ∀ fd, P.fn f = some fd → FnK P cls k X f z fd.own
theorem Ok.blk {P : Prog} {cls : String → Addr} {k : Nat} {X : L2.Cx} (h : Ok P cls k X) (s : Shared) (H : Hp) (scope : Scope) (cenv : PySem.Env) (fp : List Addr) : Ok P cls k (X.blk s H scope cenv fp) :=
  ⟨h.calm, h.room, h.nd, h.clsF, h.gl, h.bl, h.fns, h.fnd, h.fnk⟩
theorem Ok.nox {P : Prog} {cls : String → Addr} {k : Nat} {X : L2.Cx} (h : Ok P cls k X) : Ok P cls k X.nox := ⟨h.calm, h.room, h.nd, h.clsF, h.gl, h.bl, h.fns, h.fnd, h.fnk⟩
section
variable {P : Prog} {cls : String → Addr} {k : Nat} {X : L2.Cx}
theorem Ok.hu (h : Ok P cls k X) : X.A.units + 65 < cLine := by have := h.room.un; omega
theorem Ok.hu2 (h : Ok P cls k X) : X.A.units + 195 < cLine := by have := h.room.un; omega
theorem boot_all : ∀ p ∈ [("len", Value.builtin "len"), ("max", .builtin "max"), ("min", .builtin "min"), ("all", .builtin "all"), ("any", .builtin "any"), ("sum", .builtin "sum"), ("sorted", .builtin "sorted"), ("isinstance", .builtin "isinstance"),
    ("int", .type "int"), ("str", .type "str"), ("tuple", .type "tuple"), ("list", .type "list"), ("dict", .type "dict")], bootBuiltins (Str.ofString p.1) = some p.2 ∧ p.1 ∈ bNames := by
  intro p hp
  simp only [List.mem_cons, List.not_mem_nil, or_false] at hp
  rcases hp with rfl | rfl | rfl | rfl | rfl | rfl | rfl | rfl | rfl | rfl | rfl | rfl | rfl <;> exact ⟨by decide +kernel, by decide⟩
theorem bf_boot {f : Bf} {n : String} {v : Value} (h : bfV f = some (n, v)) : bootBuiltins (Str.ofString n) = some v ∧ n ∈ bNames ∧ ((∃ id, v = .builtin id) ∨ ∃ T, v = .type T) := by
  cases f <;> simp only [bfV, Option.some.injEq, Prod.mk.injEq, reduceCtorEq] at h <;> obtain ⟨rfl, rfl⟩ := h <;> (refine ⟨?_, ?_, ?_⟩ <;> first | exact .inl ⟨_, rfl⟩ | exact .inr ⟨_, rfl⟩ | exact (boot_all (_, _) (by simp)).1 | decide)

/-! ### small facts about the syntax -/
theorem star_cons {v : Expr} {vs : List Expr} {env : PySem.Env} (h : noStar v = true) : starEach (v :: vs) env = (false, eval v env) :: starEach vs env := by
  cases v <;> first | rfl | exact absurd h Bool.false_ne_true
theorem assign_cons {v : Expr} {vs : List Expr} {env : PySem.Env} (h : noStar v = true) : assignEach (v :: vs) env = (false, assign v env) :: assignEach vs env := by
  cases v <;> first | rfl | exact absurd h Bool.false_ne_true
theorem plainIx_of {v : Expr} (h : noSlice v = true) : PlainIx v := by
  intro o i
  cases v <;> first | rfl | exact absurd h Bool.false_ne_true
theorem isTrue_of {v : Expr} {env : PySem.Env} (h : noTest v = true) (whole : Sem Value) : isTrue v env whole = (do let v' ← whole; standAt v.pos; holding [v'] (truthy v')) := by
  cases v
  case UnaryOp op e p => cases op <;> first | rfl | exact absurd h Bool.false_ne_true
  all_goals first | rfl | exact absurd h Bool.false_ne_true
theorem swaps_none {v : Expr} {t : Option Expr} {l : Nat} {env : PySem.Env} (h : noComp v = true) : swapsWith v t l env = pure false := by
  cases v <;> first | rfl | exact absurd h Bool.false_ne_true
theorem attrBase_of {v : Expr} {m : Str} {env : PySem.Env} (h : noCall0 v = true) (whole : Sem Value) : attributeBase v m env whole = whole := by
  cases v
  case Call f as ks p =>
    cases f
    case Name x q =>
      cases as with
      | nil =>
        cases ks with
        | nil => exact absurd h Bool.false_ne_true
        | cons _ _ => rfl
      | cons _ _ => rfl
    all_goals rfl
  all_goals rfl
theorem folded_of {v : Expr} {env : PySem.Env} (h : noSet v = true) (x : Value) : foldedSetIterable v env x = pure x := by
  cases v <;> first | rfl | exact absurd h Bool.false_ne_true
theorem marks_of {op : CmpOp} {v : Expr} (h : noSet v = true) : behindInMarks op v = false := by
  cases v <;> first | rfl | exact absurd h Bool.false_ne_true
theorem marks2_of {op op' : CmpOp} {v u : Expr} (h : noSet u = true) : lastMarks [op, op'] [v, u] = false := by
  show lastMarks [op'] [u] = false
  show behindInMarks op' u = false
  exact marks_of h
theorem vis_of {sc : Scope} {x : Str} (h : isVis sc x = true) : Vis sc x := by
  unfold isVis at h
  split at h
  · rename_i e; exact .inl e
  · rename_i e; exact .inr (.inl e)
  · rename_i e; exact .inr (.inr e)
  · cases h
theorem gl_of {sc : Scope} {x : Str} (h : isGl sc x = true) : sc.names.lookup x = some .globalImplicit := by
  unfold isGl at h
  split at h
  · rename_i e; exact e
  · cases h
theorem loc_of {sc : Scope} {fb : Str → Bool} {x : Str} {fn : Str → Bool} (hfb : ∀ x, sc.names.lookup x = some .cell → fb x = true → fn x = true) (h : isLoc sc fb x = true) : Loc sc x ∧ (fn x = true ∨ sc.names.lookup x = some .local) := by
  unfold isLoc at h
  split at h
  · rename_i e; exact ⟨.inl e, .inr e⟩
  · rename_i e; exact ⟨.inr e, .inl (hfb x e h)⟩
  · cases h
theorem okName_of {x : Str} (h : okName x = true) : (x == ("__debug__" : Str)) = false ∧ (x == ("__classdict__" : Str)) = false ∧ x ≠ ("__name__" : Str) := by
  unfold okName at h
  simp only [Bool.and_eq_true, Bool.not_eq_true'] at h
  exact ⟨h.1.1, h.1.2, fun z => by rw [z] at h; exact absurd h.2 (by decide)⟩
theorem ix_of {N : List Str} {i : Nat} {x : Str} (h : (N[i]? == some x) = true) : N[i]? = some x := by
  simpa using h
theorem back_plain {pos : Pos} {env : PySem.Env} : ∀ {vs : List Expr}, (vs.all noStar) = true → (backTo pos (starEach vs env)).any (·.1) = false ∧ (backTo pos (starEach vs env)).all (fun x => !x.1) = true
  | [], _ => ⟨rfl, rfl⟩
  | v :: vs, h => by
    simp only [List.all_cons, Bool.and_eq_true] at h
    rw [star_cons h.1]
    obtain ⟨h1, h2⟩ := back_plain (pos := pos) (env := env) h.2
    exact ⟨by unfold backTo at *; simp only [List.map_cons, List.any_cons, Bool.false_or]; exact h1, by unfold backTo at *; simp only [List.map_cons, List.all_cons, Bool.not_false, Bool.true_and]; exact h2⟩
theorem mEs_star {N : List Str} {sc : Scope} {fb : Str → Bool} : ∀ {es : Es} {vs : List Expr}, mEs N es sc fb vs = true → vs.all noStar = true
  | .nil, [], _ => rfl
  | .nil, _ :: _, h => absurd h Bool.false_ne_true
  | .cons _ _, [], h => absurd h Bool.false_ne_true
  | .cons e r, v :: vs, h => by
    have h : (noStar v && mE N e sc fb v && mEs N r sc fb vs) = true := h
    simp only [Bool.and_eq_true] at h
    rw [List.all_cons, h.1.1, mEs_star h.2]; rfl
end
end Lr

set_option Elab.async false
set_option linter.all false
set_option maxRecDepth 100000
set_option maxHeartbeats 4000000
/-! list(reversed(a list)) -/
namespace PySem
namespace F
theorem lr_nolen : typeLookup (.type "list_reverseiterator") "__len__" = pure none := by rw [typeLookup_type, builtinLookup_eq_fast]; kernel_rfl
theorem lr_hint : typeLookup (.type "list_reverseiterator") "__length_hint__" = pure (some (.builtin "list_reverseiterator.__length_hint__")) := by rw [typeLookup_type, builtinLookup_eq_fast]; kernel_rfl
end F
section
variable {prog : Program} {w : World} {A : Around} {s : Shared} {R : Result → Shared → Prop}
variable {I : Addr} {fp wr : List Addr} {G : Array GenState → Array GenState → Prop} {n : Nat} {P : Nat → Value → Prop} {St : Nat → Shared → Prop}
theorem lr_extend (W : WalksS prog w A.in1 I fp wr G n P St) (hT : ∀ i s, St i s → s.TypeIs (.ref I) "list_reverseiterator") (S : Addr) (res : Value) (c₀ : Nat) (hst : St 0 s) (hSf : S ∉ fp) (hI : I ∈ fp)
    (hS : s.heap.get? S = some { cls := .type "list", data := .seq #[] c₀ })
    (hR : ∀ s' acc' c', Moved (S :: wr) G s s' → s'.heap.get? S = some { cls := .type "list", dict := none, data := .seq acc' c', slots := #[] } → ItemsOf P acc' n → R (.ok (.ret res)) s') (hn : n ≤ sizeLine) :
    wpAny (model prog w) A.in1 (Builtin.List.listExtendWith (.ref S) (.ref I) res)
      (fun fin s' => match fin with | .done f => R (.ok f) s' | .again c' => c'.quiet = true ∧ codeAny (model prog w) A c' R s') (fun e s' => R (.error e) s') s := by
  have hSI : S ≠ I := fun e => hSf (e ▸ hI)
  have h1 : Builtin.List.listSameRef (.ref S) (.ref I) = false := by simp [Builtin.List.listSameRef, hSI]
  unfold Builtin.List.listExtendWith
  refine wpAny_bind (wpAny_typeOf (hT 0 _ hst) ?_)
  rw [if_neg (by rw [h1]; decide)]
  refine wpAny_bind (W.self 0 _ _ _ hst ?_)
  refine wpAny_bind (wpAny_holding ?_)
  unfold Builtin.List.listLengthHint
  refine wpAny_bind (wpAny_specialOf (hT 0 _ hst) F.lr_nolen ?_)
  show wpAny _ A.in1 (specialOf (Value.ref I) (Str.ofString "__length_hint__") >>= _) _ _ _
  refine wpAny_bind (wpAny_specialOf (hT 0 _ hst) F.lr_hint ?_)
  generalize hid : ("list_reverseiterator.__length_hint__" : String) = id0
  wp_delta
  rw [show splitId id0 = some ("list_reverseiterator", "__length_hint__") from by subst hid; decide +kernel]
  subst hid
  refine wpAny_bind (wpAny_isInstance (b := true) (hT 0 _ hst) (by rw [isSubtype_type]; kernel_rfl) ?_)
  refine wpAny_pure ?_
  rw [if_neg (by decide)]
  exact wpAny_pure ⟨plainId_quiet F.plain_extend_loop _, codeAny_extend_loopS W hn _ hSf _ n 0 _ _ _ rfl (Nat.zero_le _) hst hS (ItemsOf.nil P) fun s' acc' c' hm hS' hacc => hR s' acc' c' hm hS' hacc⟩
theorem lr_init (W : WalksS prog w A.in1 I fp wr G n P St) (hT : ∀ i s, St i s → s.TypeIs (.ref I) "list_reverseiterator") (S : Addr) (hst : St 0 s) (hSf : S ∉ fp) (hI : I ∈ fp)
    (hS : s.heap.get? S = some { cls := .type "list", data := .seq #[] })
    (hR : ∀ s' acc' c', Moved (S :: wr) G s s' → s'.heap.get? S = some { cls := .type "list", dict := none, data := .seq acc' c', slots := #[] } → ItemsOf P acc' n → R (.ok (.ret .none)) s') (hn : n ≤ sizeLine) :
    wpAny (model prog w) A.in1 (Builtin.«list.__init__» ⟨[.ref S, .ref I], []⟩)
      (fun fin s' => match fin with | .done f => R (.ok f) s' | .again c' => c'.quiet = true ∧ codeAny (model prog w) A c' R s') (fun e s' => R (.error e) s') s := by
  show wpAny _ A.in1 (do let old ← Builtin.List.listItems (.ref S); Builtin.List.listUpdate (.ref S) (fun _ => #[]); letGo old.toList.reverse; Builtin.List.listExtendWith (.ref S) (.ref I) .none) _ _ s
  refine wpAny_bind ?_
  unfold Builtin.List.listItems
  refine wpAny_bind (wpAny_seqItems hS rfl (wpAny_pure ?_))
  show wpAny _ A.in1 (updateSeq S (fun _ => #[]) >>= fun _ => letGo (#[] : Array Value).toList.reverse >>= fun _ => Builtin.List.listExtendWith (.ref S) (.ref I) .none) _ _ s
  refine wpAny_bind (wpAny_updateSeq hS rfl ?_)
  have hS₂ := Heap.get?_update_self (Obj.mapSeq (fun _ => (#[] : Array Value))) hS rfl
  have oth : ∀ b o, b ≠ S → s.heap.get? b = some o → (s.heap.update S (Obj.mapSeq (fun _ => (#[] : Array Value)))).get? b = some o :=
    fun b o hb e => (Heap.get?_update_other _ _ (Ne.symm hb)).trans e
  refine wpAny_bind (wpAny_letGo ?_)
  refine lr_extend (hn := hn) W hT S .none _ (W.frame 0 s _ s.toks hst (Nat.le_refl _) fun b hb o e => oth b o (fun h => hSf (h ▸ hb)) e) hSf hI hS₂ fun s' acc' c' hm hS' hacc => ?_
  exact hR s' acc' c' (Moved.trans W.gtrans ((Moved.refl W.grefl).then_heap (Nat.le_refl _) fun b o hb e => oth b o (fun h => hb (h ▸ List.mem_cons_self)) e) hm) hS' hacc
end
section
variable {prog : Program} {w : World} {A : Around} {E : Value → Shared → Prop} {s : Shared}
variable {I : Addr} {fp wr : List Addr} {G : Array GenState → Array GenState → Prop} {n : Nat} {P : Nat → Value → Prop} {St : Nat → Shared → Prop}
theorem lr_call {Q : Value → Shared → Prop} (W : WalksS prog w A.in1.in1 I fp wr G n P St) (hT : ∀ i s, St i s → s.TypeIs (.ref I) "list_reverseiterator") (hst : St 0 s) (hfp : ∀ b ∈ fp, b < s.heap.objs.size) (hI : I ∈ fp)
    (hQ : ∀ s' acc' c', Moved (s.heap.objs.size :: wr) G { s with heap := s.heap.push { cls := .type "list", data := .seq #[] } } s' →
      s'.heap.get? s.heap.objs.size = some { cls := .type "list", dict := none, data := .seq acc' c', slots := #[] } → ItemsOf P acc' n → Q (.ref s.heap.objs.size) s') (hn : n ≤ sizeLine) :
    wpAny (model prog w) A (call (.type "list") [.ref I]) Q E s := by
  have hSf : s.heap.objs.size ∉ fp := fun hm => Nat.lt_irrefl _ (hfp _ hm)
  refine callType_codes (Q₁ := fun obj s₁ => obj = .ref s.heap.objs.size ∧ s₁ = { s with heap := s.heap.push { cls := .type "list", data := .seq #[] } }) F.called_list (F.typeCall_list_1 _) F.entry_list_init
    (code_list_new _ ⟨rfl, rfl⟩) fun obj s₁ h₁ => ?_
  obtain ⟨rfl, rfl⟩ := h₁
  have hS : (s.heap.push { cls := .type "list", data := .seq #[] }).get? s.heap.objs.size = some { cls := .type "list", data := .seq #[] } := Heap.get?_push_size _ rfl
  refine ⟨⟨_, hS, rfl⟩, F.args_list_init_2 _ _, lr_init (hn := hn) W hT _ (W.frame 0 s _ s.toks hst (Nat.le_refl _) fun b _ o e => Heap.get?_push_of_some _ e) hSf hI hS fun s' acc' c' hm hS' hacc => ?_⟩
  exact ⟨rfl, hQ s' acc' c' hm hS' hacc⟩
end
end PySem
namespace Lr
open PySem PySem.Spec PyProof.Rows L2
/-- list(reversed(x)), x a list -/
def tLstRev (K : PySem.W.Frag) (te : TE) : TE := fun σ H Q => te σ H fun v H1 => ∃ (a : Addr) (xs : List V), v = .ref a ∧ SqL K H1 a xs ∧ ∀ q, H1 q = none → Q (.ref q) (upd H1 q (.lst xs.reverse))
theorem pe_listRev {X : L2.Cx} {e : Expr} {te : TE} {p p2 pos pos2 : Pos} (hc : X.calm = true) (hg : Gl X "list") (hm : X.mg "list" = none) (hg2 : Gl X "reversed") (hm2 : X.mg "reversed" = none) (he : PE X e te)
    (hs : starEach [e] X.env = (false, eval e X.env) :: starEach [] X.env := by rfl)
    (hs2 : starEach [.Call (.Name "reversed" p2) [e] [] pos2] X.env = (false, eval (.Call (.Name "reversed" p2) [e] [] pos2) X.env) :: starEach [] X.env := by rfl) :
    PE X (.Call (.Name "list" p) [.Call (.Name "reversed" p2) [e] [] pos2] [] pos) (tLstRev X.K te) := by
  refine ⟨fun pins s σ H Q I h => ?_⟩
  refine Call_ (ld_blt I hg hm boot_list (PyProof.Rows.callWith_type1 (args_cons (Call_ (ld_blt I hg2 hm2 PyProof.Rows.boot_reversed (PyProof.Rows.callWith_type1 (args_cons (thn (he.run pins s σ H _ I h) fun u s1 ⟨v, H1, I1, r1, q1⟩ => args_nil ?_) hs) hs rfl))) hs2) hs2 rfl))
  obtain ⟨a, xs, ev, hq, q⟩ := q1
  subst ev
  obtain rfl : u = Value.ref a := r1
  obtain ⟨its, rv, p', hz⟩ := I1.list hq
  refine call_reversed_list p'.isList (args_nil ?_)
  have k0 : ∀ b o, s1.heap.get? b = some o → (s1.heap.push (revObj a ((its.toArray.size : Int) - 1))).get? b = some o := fun b o e => Heap.get?_push_of_some _ e
  have I2 : Inv X pins σ H1 { s1 with heap := s1.heap.push (revObj a ((its.toArray.size : Int) - 1)) } := I1.kept (t' := s1.toks) k0
  have fp := I1.fpOk (H' := H1) (b := s1.heap.objs.size) (Nat.le_refl _) (I1.hok.fresh (Nat.le_refl _))
  have hl := p'.isList
  obtain ⟨ol, hol, _⟩ := id hl
  have hlt : a < s1.heap.objs.size := Heap.lt_size hol
  have hne : a ≠ s1.heap.objs.size := Nat.ne_of_lt hlt
  have hn : its.toArray.size ≤ sizeLine := by rw [List.size_toArray, ← rv.length]; exact hz
  have hsz : (s1.heap.push (revObj a ((its.toArray.size : Int) - 1))).objs.size = s1.heap.objs.size + 1 := Heap.size_push ..
  refine lr_call (s := { s1 with heap := s1.heap.push (revObj a ((its.toArray.size : Int) - 1)) }) (hn := hn) (Walks.listRev (A := X.A.in1.in1) (I1.ok.hd hc) s1.heap.objs.size a hne its.toArray).toS
    (fun i s st => st.2.1.typeIs) ⟨Nat.zero_le _, ⟨_, Heap.get?_push_size _ rfl, rfl, ?_⟩, hl.push _⟩ (fun b hb => ?_) (by simp) fun s' acc' c' hmv hS hacc => ?_
  · show Data.fields _ = _
    have e0 : ((its.toArray.size : Int) - 1 - ((0 : Nat) : Int)) = (its.toArray.size : Int) - 1 := by omega
    rw [e0]
  · rw [hsz]
    have : b = s1.heap.objs.size ∨ b = a := by simpa using hb
    rcases this with z | z
    · rw [z]; exact Nat.lt_succ_self _
    · rw [z]; exact Nat.lt_succ_of_lt hlt
  · rw [Moved.eq_with hmv]
    refine ⟨.ref _, _, I2.turnedNew (t' := s'.toks) (ch := [s1.heap.objs.size]) (T := (s1.heap.push (revObj a ((its.toArray.size : Int) - 1))).objs.size) (ob := .lst xs.reverse) (fun b o hb e => ?_) (fun b hb => ?_) (Nat.le_refl _) (show ObjOk X.prog X.w _ _ _ (.lst xs.reverse) from ⟨by rw [List.length_reverse]; exact hz, acc'.toList, c', RT.vals_rev rv hacc, ?_⟩), rfl, q _ (I2.hok.fresh (Nat.le_refl _))⟩
    · refine hmv.heap b o (fun z => ?_) (Heap.get?_push_of_some _ e)
      rcases List.mem_cons.mp z with z | z
      · exact absurd (Heap.lt_size e) (by rw [z]; exact Nat.lt_irrefl _)
      · exact hb z
    · rw [List.mem_singleton.mp hb]; exact fp
    · rw [Array.toArray_toList]; exact hS
end Lr

set_option Elab.async false
set_option linter.all false
set_option maxRecDepth 100000
set_option maxHeartbeats 4000000
/-! list(reversed(a tuple)) -/
namespace RT
open PySem PySem.Spec PyProof.Rows L2
theorem tup_at {h h' : Heap} {l : Addr} {items : Array Value} (x : IsTup h l items) (e : ∀ o, h.get? l = some o → h'.get? l = some o) : IsTup h' l items := let ⟨o, ho, hc, n, hd⟩ := x; ⟨o, e _ ho, hc, n, hd⟩
theorem rt_walks {prog : Program} {w : World} {A : Around} (hh : A.handled = none) (I l : Addr) (hne : l ≠ I) (items : Array Value) (hz : items.size ≤ sizeLine) :
    Walks prog w A I [I, l] [I] items.size (fun i v => items[items.size - 1 - i]? = some v) (fun i h => i ≤ items.size ∧ IsRt h I l ((items.size : Int) - 1 - (i : Int)) ∧ IsTup h l items) where
  sub := fun b hb => by simp at hb; simp [hb]
  frame := fun _ _ _ x hk => ⟨x.1, x.2.1.at fun o e => hk I (by simp) o e, tup_at x.2.2 fun o e => hk l (by simp) o e⟩
  item := fun i s Q E hi x hQ => by
    have e : (items.size : Int) - 1 - (i : Int) = ((items.size - 1 - i : Nat) : Int) := by omega
    have hit := x.2.1
    rw [e] at hit
    have hx : items[items.size - 1 - i]? = some (items[items.size - 1 - i]'(by omega)) := Array.getElem?_eq_getElem (by omega)
    refine next_rt_item hit x.2.2 hx hz fun h' hit' hs' => ?_
    have e2 : ((items.size - 1 - i : Nat) : Int) - 1 = (items.size : Int) - 1 - ((i + 1 : Nat) : Int) := by omega
    rw [e2] at hit'
    exact hQ _ h' (s.toks + 1) hx ⟨hi, hit', tup_at x.2.2 fun o eo => (hs'.2 l hne).trans eo⟩ fun b o hb eo => hs'.extBut b o (fun h => hb (by simp [h])) eo
  done := fun s Q E x hQ => by
    have e : (items.size : Int) - 1 - (items.size : Int) = -1 := by omega
    have hit := x.2.1
    rw [e] at hit
    exact next_rt_end hh hit fun h' he' => hQ h' s.toks fun b o hb eo => he' b o (fun h => hb (by simp [h])) eo
  self := fun _ _ _ _ x hQ => iter_rt x.2.1 hQ
theorem rt_nolen : typeLookup (.type "reversed") "__len__" = pure none := by rw [typeLookup_type, builtinLookup_eq_fast]; kernel_rfl
theorem rt_hint : typeLookup (.type "reversed") "__length_hint__" = pure (some (.builtin "reversed.__length_hint__")) := by rw [typeLookup_type, builtinLookup_eq_fast]; kernel_rfl
theorem slot_rt_hint : Slot "reversed" "__length_hint__" "reversed.__length_hint__" :=
  .of (owner := "reversed") (n := "__length_hint__") (by rw [typeLookup_type, builtinLookup_eq_fast]; kernel_rfl) (by decide +kernel) (by decide +kernel) (by decide +kernel)
    (by first | exact .inl (by decide +kernel) | exact .inr (by decide +kernel)) (by rw [isSubtype_type]; kernel_rfl)
theorem entry_rt_hint : entryFor table "reversed.__length_hint__" = some Builtin.«reversed.__length_hint__» := entryFor_of_tree (by kernel_rfl)
theorem args_rt_hint (a : Value) : argsOk "reversed.__length_hint__" ⟨[a], []⟩ := by
  unfold argsOk; rw [signature?_of (id := "reversed.__length_hint__") (n := ['_', '_', 't', 'n', 'i', 'h', '_', 'h', 't', 'g', 'n', 'e', 'l', '_', '_']) (o := ['d', 'e', 's', 'r', 'e', 'v', 'e', 'r']) (by kernel_rfl) owner_rt]; kernel_rfl
section
variable {prog : Program} {w : World} {A : Around} {E : Value → Shared → Prop} {s : Shared}
theorem rt_len_hint {I l : Addr} {items : Array Value} {Q : Bool → Shared → Prop} (hit : IsRt s.heap I l ((items.size : Int) - 1)) (ht : IsTup s.heap l items) (hz : items.size ≤ sizeLine)
    (h : ∀ b tk, s.toks ≤ tk → Q b { s with toks := tk }) : wpAny (model prog w) A (Builtin.List.listLengthHint (.ref I)) Q E s := by
  unfold Builtin.List.listLengthHint
  refine wpAny_bind (wpAny_specialOf hit.typeIs rt_nolen ?_)
  show wpAny _ A (specialOf (Value.ref I) (Str.ofString "__length_hint__") >>= _) _ _ _
  refine wpAny_bind (wpAny_specialOf hit.typeIs rt_hint ?_)
  generalize hid : ("reversed.__length_hint__" : String) = id0
  wp_delta
  rw [show splitId id0 = some ("reversed", "__length_hint__") from by subst hid; decide +kernel]
  subst hid
  refine wpAny_bind (wpAny_isInstance (b := true) hit.typeIs (by rw [isSubtype_type]; kernel_rfl) ?_)
  rw [if_neg (by decide), if_neg (by decide +kernel)]
  refine wpAny_bind (wpAny_rule ?_)
  refine wpAny_bind (wpAny_of_eq (slot_rt_hint.bind _) ?_)
  try dsimp only
  refine wpAny_bind (wpAny_attempt (wpAny_call_entry slot_rt_hint hit.typeIs entry_rt_hint ?_ (args_rt_hint _)))
  obtain ⟨o, ho, hc, hd⟩ := id hit
  unfold Builtin.«reversed.__length_hint__»
  refine wpAny_bind (wpAny_of_eq (a := Value.ref I) rfl ?_)
  try dsimp only
  refine wpAny_bind (wpAny_field ho hd (x := .ref l) rfl ?_)
  try dsimp only
  rw [if_neg (show ¬((Value.ref l == Value.none) = true) from Bool.false_ne_true)]
  have hz2 : items.size ≤ 16777216 := by rw [sizeLine_eq] at hz; exact Nat.le_trans hz (by decide)
  refine wpAny_bind (len_tuple ht (by omega) ?_)
  refine wpAny_bind (m := asInt? _) (wpAny_pure ?_)
  try dsimp only
  refine wpAny_bind (wpAny_field (s := { s with toks := s.toks + 1 + 1 }) ho hd (x := rawInt ((items.size : Int) - 1)) rfl ?_)
  show wpAny _ _ (if (items.size : Int) < (items.size : Int) - 1 + 1 then _ else _) _ _ _
  rw [if_neg (by omega)]
  unfold retInt
  refine wpAny_bind (wpAny_mkInt ?_)
  refine wpAny_pure ⟨_, rfl, ?_⟩
  try dsimp only
  refine wpAny_bind (m := asInt? _) (wpAny_pure ?_)
  try dsimp only
  have e1 : Builtin.List.listFitsIndex ((items.size : Int) - 1 + 1) = true := by
    unfold Builtin.List.listFitsIndex
    rw [Bool.and_eq_true]
    exact ⟨decide_eq_true (by omega), decide_eq_true (by omega)⟩
  have e2 : Builtin.List.listTooLong ((items.size : Int) - 1 + 1).toNat = false := by
    unfold Builtin.List.listTooLong
    exact decide_eq_false (by omega)
  rw [e1, if_neg (by decide), if_neg (by omega), e2, if_neg (by decide)]
  exact wpAny_pure (h _ _ (by show s.toks ≤ s.toks + 1 + 1 + 1; omega))
end
section
variable {prog : Program} {w : World} {A : Around} {s : Shared} {R : Result → Shared → Prop}
abbrev rtP (items : Array Value) : Nat → Value → Prop := fun i v => items[items.size - 1 - i]? = some v
abbrev rtG : Array GenState → Array GenState → Prop := fun a b => b = a
theorem rt_extend (hh : A.handled = none) {I l : Addr} {items : Array Value} (hne : l ≠ I) (hz : items.size ≤ sizeLine) (hit : IsRt s.heap I l ((items.size : Int) - 1)) (ht : IsTup s.heap l items) (S : Addr) (res : Value) (c₀ : Nat) (hSf : S ∉ [I, l])
    (hS : s.heap.get? S = some { cls := .type "list", data := .seq #[] c₀ })
    (hR : ∀ s' acc' c', Moved (S :: [I]) rtG s s' → s'.heap.get? S = some { cls := .type "list", dict := none, data := .seq acc' c', slots := #[] } → ItemsOf (rtP items) acc' items.size → R (.ok (.ret res)) s') :
    wpAny (model prog w) A.in1 (Builtin.List.listExtendWith (.ref S) (.ref I) res)
      (fun fin s' => match fin with | .done f => R (.ok f) s' | .again c' => c'.quiet = true ∧ codeAny (model prog w) A c' R s') (fun e s' => R (.error e) s') s := by
  have hSI : S ≠ I := fun e => hSf (by rw [e]; simp)
  have hSl : S ≠ l := fun e => hSf (by rw [e]; simp)
  have h1 : Builtin.List.listSameRef (.ref S) (.ref I) = false := by simp [Builtin.List.listSameRef, hSI]
  have W := (rt_walks (prog := prog) (w := w) (A := A.in1) hh I l hne items hz).toS
  have key : ∀ (h : Heap) (c₁ tk : Nat), s.toks ≤ tk → IsRt h I l ((items.size : Int) - 1) → IsTup h l items → (∀ b o, b ≠ S → s.heap.get? b = some o → h.get? b = some o) →
      h.get? S = some { cls := .type "list", data := .seq #[] c₁ } → codeAny (model prog w) A (.builtin "list.extend.loop" ⟨[.ref S, .ref I, res], []⟩) R { s with heap := h, toks := tk } := by
    intro h c₁ tk htk hit' ht' hk hS₁
    have st0 : (fun (i : Nat) (s : Shared) => i ≤ items.size ∧ IsRt s.heap I l ((items.size : Int) - 1 - (i : Int)) ∧ IsTup s.heap l items) 0 { s with heap := h, toks := tk } := ⟨Nat.zero_le _, by
      have e0 : ((items.size : Int) - 1 - ((0 : Nat) : Int)) = (items.size : Int) - 1 := by omega
      rw [e0]; exact hit', ht'⟩
    refine codeAny_extend_loopS W hz S hSf res items.size 0 _ #[] c₁ rfl (Nat.zero_le _) st0 hS₁ (ItemsOf.nil _) fun s' acc' c' hm hS' hacc => ?_
    exact hR s' acc' c' (Moved.trans (fun a b c h1 h2 => by rw [h2, h1]) ((Moved.refl (wr := S :: [I]) (G := rtG) (s := s) (fun a => rfl)).then_heap htk fun b o hb e => hk b o (fun h => hb (by rw [h]; exact List.mem_cons_self)) e) hm) hS' hacc
  unfold Builtin.List.listExtendWith
  refine wpAny_bind (wpAny_typeOf hit.typeIs ?_)
  rw [if_neg (by rw [h1]; decide)]
  refine wpAny_bind (iter_rt hit ?_)
  refine wpAny_bind (wpAny_holding (rt_len_hint hit ht hz fun room tk htk => ?_))
  refine wpAny_ite_split (fun _ => ?_) (fun _ => wpAny_pure ⟨plainId_quiet F.plain_extend_loop _, key _ c₀ tk htk hit ht (fun b o _ e => e) hS⟩)
  refine wpAny_bind (wpAny_rule ?_)
  refine wpAny_bind ?_
  show wpAny _ _ (updateSeq S (·.push .none) >>= fun _ => updateSeq S (·.pop)) _ _ _
  refine wpAny_bind (wpAny_updateSeq hS rfl ?_)
  have hS₂ := Heap.get?_update_self (Obj.mapSeq (·.push Value.none)) hS rfl
  refine wpAny_updateSeq (hz := by seq_fits) hS₂ rfl ?_
  have hS₃ := Heap.get?_update_self (Obj.mapSeq (·.pop)) hS₂ rfl
  have oth : ∀ b o, b ≠ S → s.heap.get? b = some o → ((s.heap.update S (Obj.mapSeq (·.push Value.none))).update S (Obj.mapSeq (·.pop))).get? b = some o :=
    fun b o hb e => (Heap.get?_update_other _ _ (Ne.symm hb)).trans ((Heap.get?_update_other _ _ (Ne.symm hb)).trans e)
  exact wpAny_pure ⟨plainId_quiet F.plain_extend_loop _, key _ _ tk htk (hit.at fun o e => oth I o (Ne.symm hSI) e) (tup_at ht fun o e => oth l o (Ne.symm hSl) e) (fun b o hb e => oth b o hb e) hS₃⟩
end
section
variable {prog : Program} {w : World} {A : Around} {s : Shared} {R : Result → Shared → Prop} {E : Value → Shared → Prop}
theorem rt_init (hh : A.handled = none) {I l : Addr} {items : Array Value} (hne : l ≠ I) (hz : items.size ≤ sizeLine) (hit : IsRt s.heap I l ((items.size : Int) - 1)) (ht : IsTup s.heap l items) (S : Addr) (hSf : S ∉ [I, l])
    (hS : s.heap.get? S = some { cls := .type "list", data := .seq #[] })
    (hR : ∀ s' acc' c', Moved (S :: [I]) rtG s s' → s'.heap.get? S = some { cls := .type "list", dict := none, data := .seq acc' c', slots := #[] } → ItemsOf (rtP items) acc' items.size → R (.ok (.ret .none)) s') :
    wpAny (model prog w) A.in1 (Builtin.«list.__init__» ⟨[.ref S, .ref I], []⟩)
      (fun fin s' => match fin with | .done f => R (.ok f) s' | .again c' => c'.quiet = true ∧ codeAny (model prog w) A c' R s') (fun e s' => R (.error e) s') s := by
  have hSI : S ≠ I := fun e => hSf (by rw [e]; simp)
  have hSl : S ≠ l := fun e => hSf (by rw [e]; simp)
  show wpAny _ A.in1 (do let old ← Builtin.List.listItems (.ref S); Builtin.List.listUpdate (.ref S) (fun _ => #[]); letGo old.toList.reverse; Builtin.List.listExtendWith (.ref S) (.ref I) .none) _ _ s
  refine wpAny_bind ?_
  unfold Builtin.List.listItems
  refine wpAny_bind (wpAny_seqItems hS rfl (wpAny_pure ?_))
  show wpAny _ A.in1 (updateSeq S (fun _ => #[]) >>= fun _ => letGo (#[] : Array Value).toList.reverse >>= fun _ => Builtin.List.listExtendWith (.ref S) (.ref I) .none) _ _ s
  refine wpAny_bind (wpAny_updateSeq hS rfl ?_)
  have hS₂ := Heap.get?_update_self (Obj.mapSeq (fun _ => (#[] : Array Value))) hS rfl
  have oth : ∀ b o, b ≠ S → s.heap.get? b = some o → (s.heap.update S (Obj.mapSeq (fun _ => (#[] : Array Value)))).get? b = some o :=
    fun b o hb e => (Heap.get?_update_other _ _ (Ne.symm hb)).trans e
  refine wpAny_bind (wpAny_letGo ?_)
  refine rt_extend hh hne hz (hit.at fun o e => oth I o (Ne.symm hSI) e) (tup_at ht fun o e => oth l o (Ne.symm hSl) e) S .none _ hSf hS₂ fun s' acc' c' hm hS' hacc => ?_
  exact hR s' acc' c' (Moved.trans (fun a b c h1 h2 => by rw [h2, h1]) ((Moved.refl (wr := S :: [I]) (G := rtG) (s := s) (fun a => rfl)).then_heap (Nat.le_refl _) fun b o hb e => oth b o (fun h => hb (by rw [h]; exact List.mem_cons_self)) e) hm) hS' hacc
theorem rt_call (hh : A.handled = none) {Q : Value → Shared → Prop} {I l : Addr} {items : Array Value} (hne : l ≠ I) (hz : items.size ≤ sizeLine) (hit : IsRt s.heap I l ((items.size : Int) - 1)) (ht : IsTup s.heap l items) (hI : I < s.heap.objs.size) (hl : l < s.heap.objs.size)
    (hQ : ∀ s' acc' c', Moved (s.heap.objs.size :: [I]) rtG { s with heap := s.heap.push { cls := .type "list", data := .seq #[] } } s' →
      s'.heap.get? s.heap.objs.size = some { cls := .type "list", dict := none, data := .seq acc' c', slots := #[] } → ItemsOf (rtP items) acc' items.size → Q (.ref s.heap.objs.size) s') :
    wpAny (model prog w) A (call (.type "list") [.ref I]) Q E s := by
  have hSf : s.heap.objs.size ∉ [I, l] := fun hm => by
    rcases List.mem_cons.mp hm with z | z
    · exact absurd hI (by rw [← z]; exact Nat.lt_irrefl _)
    · exact absurd hl (by rw [← List.mem_singleton.mp z]; exact Nat.lt_irrefl _)
  refine callType_codes (Q₁ := fun obj s₁ => obj = .ref s.heap.objs.size ∧ s₁ = { s with heap := s.heap.push { cls := .type "list", data := .seq #[] } }) F.called_list (F.typeCall_list_1 _) F.entry_list_init
    (code_list_new _ ⟨rfl, rfl⟩) fun obj s₁ h₁ => ?_
  obtain ⟨rfl, rfl⟩ := h₁
  have hS : (s.heap.push { cls := .type "list", data := .seq #[] }).get? s.heap.objs.size = some { cls := .type "list", data := .seq #[] } := Heap.get?_push_size _ rfl
  refine ⟨⟨_, hS, rfl⟩, F.args_list_init_2 _ _, rt_init (A := A.in1) hh hne hz (hit.at fun o e => Heap.get?_push_of_some _ e) (tup_at ht fun o e => Heap.get?_push_of_some _ e) _ hSf hS fun s' acc' c' hm hS' hacc => ?_⟩
  exact ⟨rfl, hQ s' acc' c' hm hS' hacc⟩
end
end RT
namespace Lr
open PySem PySem.Spec PyProof.Rows L2
/-- list(reversed(x)), x a list or a tuple -/
def tLstRevA (K : PySem.W.Frag) (te : TE) : TE := fun σ H Q => te σ H fun v H1 => ∃ (a : Addr) (xs : List V), v = .ref a ∧ (SqL K H1 a xs ∨ SqT K H1 a xs) ∧ ∀ q, H1 q = none → Q (.ref q) (upd H1 q (.lst xs.reverse))
theorem pe_listRevA {X : L2.Cx} {e : Expr} {te : TE} {p p2 pos pos2 : Pos} (hc : X.calm = true) (hg : Gl X "list") (hm : X.mg "list" = none) (hg2 : Gl X "reversed") (hm2 : X.mg "reversed" = none) (he : PE X e te)
    (hs : starEach [e] X.env = (false, eval e X.env) :: starEach [] X.env := by rfl)
    (hs2 : starEach [.Call (.Name "reversed" p2) [e] [] pos2] X.env = (false, eval (.Call (.Name "reversed" p2) [e] [] pos2) X.env) :: starEach [] X.env := by rfl) :
    PE X (.Call (.Name "list" p) [.Call (.Name "reversed" p2) [e] [] pos2] [] pos) (tLstRevA X.K te) := by
  refine ⟨fun pins s σ H Q I h => ?_⟩
  refine Call_ (ld_blt I hg hm boot_list (PyProof.Rows.callWith_type1 (args_cons (Call_ (ld_blt I hg2 hm2 PyProof.Rows.boot_reversed (PyProof.Rows.callWith_type1 (args_cons (thn (he.run pins s σ H _ I h) fun u s1 ⟨v, H1, I1, r1, q1⟩ => args_nil ?_) hs) hs rfl))) hs2) hs2 rfl))
  obtain ⟨a, xs, ev, hq, q⟩ := q1
  subst ev
  obtain rfl : u = Value.ref a := r1
  have fp := I1.fpOk (H' := H1) (b := s1.heap.objs.size) (Nat.le_refl _) (I1.hok.fresh (Nat.le_refl _))
  rcases hq with hq | hq
  · obtain ⟨its, rv, p', hz⟩ := I1.list hq
    refine call_reversed_list p'.isList (args_nil ?_)
    have I2 : Inv X pins σ H1 { s1 with heap := s1.heap.push (revObj a ((its.toArray.size : Int) - 1)) } := I1.kept (t' := s1.toks) fun b o e => Heap.get?_push_of_some _ e
    have hl := p'.isList
    obtain ⟨ol, hol, _⟩ := id hl
    have hlt : a < s1.heap.objs.size := Heap.lt_size hol
    have hne : a ≠ s1.heap.objs.size := Nat.ne_of_lt hlt
    have hn : its.toArray.size ≤ sizeLine := by rw [List.size_toArray, ← rv.length]; exact hz
    have hsz : (s1.heap.push (revObj a ((its.toArray.size : Int) - 1))).objs.size = s1.heap.objs.size + 1 := Heap.size_push ..
    refine lr_call (s := { s1 with heap := s1.heap.push (revObj a ((its.toArray.size : Int) - 1)) }) (hn := hn) (Walks.listRev (A := X.A.in1.in1) (I1.ok.hd hc) s1.heap.objs.size a hne its.toArray).toS
      (fun i s st => st.2.1.typeIs) ⟨Nat.zero_le _, ⟨_, Heap.get?_push_size _ rfl, rfl, ?_⟩, hl.push _⟩ (fun b hb => ?_) (by simp) fun s' acc' c' hmv hS hacc => ?_
    · show Data.fields _ = _
      have e0 : ((its.toArray.size : Int) - 1 - ((0 : Nat) : Int)) = (its.toArray.size : Int) - 1 := by omega
      rw [e0]
    · rw [hsz]
      have : b = s1.heap.objs.size ∨ b = a := by simpa using hb
      rcases this with z | z
      · rw [z]; exact Nat.lt_succ_self _
      · rw [z]; exact Nat.lt_succ_of_lt hlt
    · rw [Moved.eq_with hmv]
      refine ⟨.ref _, _, I2.turnedNew (t' := s'.toks) (ch := [s1.heap.objs.size]) (T := (s1.heap.push (revObj a ((its.toArray.size : Int) - 1))).objs.size) (ob := .lst xs.reverse) (fun b o hb e => ?_) (fun b hb => ?_) (Nat.le_refl _) (show ObjOk X.prog X.w _ _ _ (.lst xs.reverse) from ⟨by rw [List.length_reverse]; exact hz, acc'.toList, c', RT.vals_rev rv hacc, ?_⟩), rfl, q _ (I2.hok.fresh (Nat.le_refl _))⟩
      · refine hmv.heap b o (fun z => ?_) (Heap.get?_push_of_some _ e)
        rcases List.mem_cons.mp z with z | z
        · exact absurd (Heap.lt_size e) (by rw [z]; exact Nat.lt_irrefl _)
        · exact hb z
      · rw [List.mem_singleton.mp hb]; exact fp
      · rw [Array.toArray_toList]; exact hS
  · obtain ⟨its, rv, p', hz⟩ := I1.tuple hq
    have hl := rv.length
    have hn0 := line63
    refine RT.call_reversed_tup p' (fun A E Q k => len_tuple p' (by simp only [List.size_toArray] <;> omega) k) (args_nil ?_)
    have I2 : Inv X pins σ H1 { s1 with heap := s1.heap.push (RT.rtObj a ((its.toArray.size : Int) - 1)), toks := s1.toks + 1 + 1 } := I1.kept fun b o e => Heap.get?_push_of_some _ e
    obtain ⟨ol, hol, _⟩ := id p'
    have hlt : a < s1.heap.objs.size := Heap.lt_size hol
    have hne : a ≠ s1.heap.objs.size := Nat.ne_of_lt hlt
    have hn : its.toArray.size ≤ sizeLine := by rw [List.size_toArray, ← rv.length]; exact hz
    have hsz : (s1.heap.push (RT.rtObj a ((its.toArray.size : Int) - 1))).objs.size = s1.heap.objs.size + 1 := Heap.size_push ..
    refine RT.rt_call (s := { s1 with heap := s1.heap.push (RT.rtObj a ((its.toArray.size : Int) - 1)), toks := s1.toks + 1 + 1 }) (I1.ok.hd hc) (I := s1.heap.objs.size) (l := a) (items := its.toArray) hne hn ⟨_, Heap.get?_push_size _ rfl, rfl, rfl⟩ (RT.tup_at p' fun o e => Heap.get?_push_of_some _ e) (by rw [hsz]; exact Nat.lt_succ_self _) (by rw [hsz]; exact Nat.lt_succ_of_lt hlt) fun s' acc' c' hmv hS hacc => ?_
    rw [Moved.eq_with hmv]
    refine ⟨.ref _, _, I2.turnedNew (t' := s'.toks) (ch := [s1.heap.objs.size]) (T := (s1.heap.push (RT.rtObj a ((its.toArray.size : Int) - 1))).objs.size) (ob := .lst xs.reverse) (fun b o hb e => ?_) (fun b hb => ?_) (Nat.le_refl _) (show ObjOk X.prog X.w _ _ _ (.lst xs.reverse) from ⟨by rw [List.length_reverse]; exact hz, acc'.toList, c', RT.vals_rev rv hacc, ?_⟩), rfl, q _ (I2.hok.fresh (Nat.le_refl _))⟩
    · refine hmv.heap b o (fun z => ?_) (Heap.get?_push_of_some _ e)
      rcases List.mem_cons.mp z with z | z
      · exact absurd (Heap.lt_size e) (by rw [z]; exact Nat.lt_irrefl _)
      · exact hb z
    · rw [List.mem_singleton.mp hb]; exact fp
    · rw [Array.toArray_toList]; exact hS
end Lr

set_option Elab.async false
set_option linter.all false
set_option maxRecDepth 100000
set_option maxHeartbeats 4000000
/-! list(zip(x, y)) -/
namespace RT
open PySem PySem.Spec PyProof.Rows L2
section
variable {prog : Program} {w : World} {A : Around} {E : Value → Shared → Prop} {s : Shared}
theorem zipT_next_item_held {z TI TO T i1 i2 l1 l2 : Addr} {f : Bool} {oT : Obj} {k1 k2 : Nat} {xs ys : Array Value} {x y : Value} {Q : Value → Shared → Prop} (D : ZipApart z TI TO i1 i2 l1 l2)
    (hz : IsZipHeld s.heap z TI TO T f) (hT : s.heap.get? T = some oT) (hTI : IsPair s.heap TI (.ref i1) (.ref i2))
    (h1 : s.heap.IsTupleIter i1 l1 k1) (h2 : s.heap.IsTupleIter i2 l2 k2) (hl1 : s.heap.IsTuple l1 xs) (hl2 : s.heap.IsTuple l2 ys) (hx : xs[k1]? = some x) (hy : ys[k2]? = some y)
    (hQ : ∀ h', IsZipHeld h' z TI TO T true → h'.IsTupleIter i1 l1 (k1 + 1) → h'.IsTupleIter i2 l2 (k2 + 1) → IsPair h' s.heap.objs.size x y → h'.objs.size = s.heap.objs.size + 1 →
      (∀ c o, c ≠ z → c ≠ i1 → c ≠ i2 → s.heap.get? c = some o → h'.get? c = some o) → Q (.ref s.heap.objs.size) { s with heap := h' }) :
    wpAny (model prog w) A (Builtin.«zip.__next__» ⟨[.ref z], []⟩) (fun fin s' => ∃ v, fin = .done (.ret v) ∧ Q v s') E s := by
  show wpAny _ _ (field (.ref z) 2 >>= _) _ _ _
  refine wpAny_bind (wpAny_field hz rfl (x := .bool false) rfl ?_)
  show wpAny _ _ (field (.ref z) 3 >>= _) _ _ _
  refine wpAny_bind (wpAny_field hz rfl (x := .ref TI) rfl ?_)
  refine wpAny_bind (wpAny_seqItems hTI rfl ?_)
  show wpAny _ _ (Builtin.SmallTypes.ownedTupleIsFree (.ref z) >>= _) _ _ _
  refine wpAny_bind (wpAny_tupleHeld_zip hz hT fun h₁ hz₁ hs₁ => ?_)
  simp only [Bool.false_eq_true, if_false]
  refine wpAny_bind ?_
  rw [← Array.forIn_toList]
  simp only [List.forIn_cons, List.forIn_nil]
  refine wpAny_bind (wpAny_bind (wpAny_holding ?_))
  show wpAny _ _ (Builtin.SmallTypes.nextOf (.ref i1) >>= _) _ _ _
  refine wpAny_bind (RZ.nextOf_tuple_item (s := { s with heap := h₁ }) (h1.extBut hs₁.extBut D.i1z) (hl1.extBut hs₁.extBut D.l1z) hx fun h₂ h1₂ hs₂ => wpAny_pure ?_)
  refine wpAny_pure ?_
  refine wpAny_bind (wpAny_bind (wpAny_holding ?_))
  show wpAny _ _ (Builtin.SmallTypes.nextOf (.ref i2) >>= _) _ _ _
  refine wpAny_bind (RZ.nextOf_tuple_item (s := { s with heap := h₂ }) ((h2.extBut hs₁.extBut D.i2z).extBut hs₂.extBut D.i12.symm) ((hl2.extBut hs₁.extBut D.l2z).extBut hs₂.extBut D.l2i1) hy fun h₃ h2₃ hs₃ => wpAny_pure ?_)
  refine wpAny_pure (wpAny_pure ?_)
  show wpAny _ _ (newTuple [x, y] >>= _) _ _ _
  refine wpAny_bind (wpAny_newTuple ?_)
  have hsz : h₃.objs.size = s.heap.objs.size := by rw [hs₃.1, hs₂.1, hs₁.1]
  have hz₃ : IsZipHeld h₃ z TI TO T true := hs₃.extBut _ _ D.i2z.symm (hs₂.extBut _ _ D.i1z.symm hz₁)
  have hk : ∀ c o, c ≠ z → c ≠ i1 → c ≠ i2 → s.heap.get? c = some o → h₃.get? c = some o := fun c o c1 c2 c3 e => hs₃.extBut _ _ c3 (hs₂.extBut _ _ c2 (hs₁.extBut _ _ c1 e))
  have h1₃ : h₃.IsTupleIter i1 l1 (k1 + 1) := h1₂.extBut hs₃.extBut D.i12
  refine wpAny_pure ⟨_, rfl, ?_⟩
  show Q (.ref h₃.objs.size) _
  have hp : IsPair (h₃.push { cls := .type "tuple", data := .seq #[x, y] }) h₃.objs.size x y := Heap.get?_push_size _ rfl
  have hz4 : (h₃.push { cls := .type "tuple", data := .seq #[x, y] }).objs.size = h₃.objs.size + 1 := Heap.size_push ..
  rw [hsz] at hp hz4 ⊢
  exact hQ _ (Heap.get?_push_of_some _ hz₃) (h1₃.at fun o e => Heap.get?_push_of_some _ e) (h2₃.at fun o e => Heap.get?_push_of_some _ e) hp hz4 fun c o c1 c2 c3 e => Heap.get?_push_of_some _ (hk c o c1 c2 c3 e)
theorem zipT_next_end_held {z TI TO T i1 i2 l1 l2 : Addr} {f : Bool} {oT : Obj} {k1 k2 : Nat} {xs ys : Array Value} {Q : Fin → Shared → Prop} (hh : A.handled = none) (D : ZipApart z TI TO i1 i2 l1 l2)
    (hz : IsZipHeld s.heap z TI TO T f) (hT : s.heap.get? T = some oT) (hTI : IsPair s.heap TI (.ref i1) (.ref i2))
    (h1 : s.heap.IsTupleIter i1 l1 k1) (h2 : s.heap.IsTupleIter i2 l2 k2) (hl1 : s.heap.IsTuple l1 xs) (hl2 : s.heap.IsTuple l2 ys) (hend : xs[k1]? = none ∨ ys[k2]? = none)
    (hE : ∀ h' e, (∀ c o, c ≠ z → c ≠ i1 → c ≠ i2 → s.heap.get? c = some o → h'.get? c = some o) → (∃ o, h'.get? e = some o ∧ o.cls = .type "StopIteration") → E (.ref e) { s with heap := h' }) :
    wpAny (model prog w) A (Builtin.«zip.__next__» ⟨[.ref z], []⟩) Q E s := by
  show wpAny _ _ (field (.ref z) 2 >>= _) _ _ _
  refine wpAny_bind (wpAny_field hz rfl (x := .bool false) rfl ?_)
  show wpAny _ _ (field (.ref z) 3 >>= _) _ _ _
  refine wpAny_bind (wpAny_field hz rfl (x := .ref TI) rfl ?_)
  refine wpAny_bind (wpAny_seqItems hTI rfl ?_)
  show wpAny _ _ (Builtin.SmallTypes.ownedTupleIsFree (.ref z) >>= _) _ _ _
  refine wpAny_bind (wpAny_tupleHeld_zip hz hT fun h₁ hz₁ hs₁ => ?_)
  simp only [Bool.false_eq_true, if_false]
  refine wpAny_bind ?_
  rw [← Array.forIn_toList]
  simp only [List.forIn_cons, List.forIn_nil]
  refine wpAny_bind (wpAny_bind (wpAny_holding ?_))
  show wpAny _ _ (Builtin.SmallTypes.nextOf (.ref i1) >>= _) _ _ _
  cases hx : xs[k1]? with
  | none =>
    refine wpAny_bind (RZ.nextOf_tuple_end (s := { s with heap := h₁ }) hh (h1.extBut hs₁.extBut D.i1z) (hl1.extBut hs₁.extBut D.l1z) hx fun h₂ e hs₂ he => ?_)
    exact hE h₂ e (fun c o c1 c2 _ x => hs₂ _ _ c2 (hs₁.extBut _ _ c1 x)) he
  | some x =>
    have hy : ys[k2]? = none := by rcases hend with h | h; rw [hx] at h; cases h; exact h
    refine wpAny_bind (RZ.nextOf_tuple_item (s := { s with heap := h₁ }) (h1.extBut hs₁.extBut D.i1z) (hl1.extBut hs₁.extBut D.l1z) hx fun h₂ h1₂ hs₂ => wpAny_pure ?_)
    refine wpAny_pure ?_
    refine wpAny_bind (wpAny_bind (wpAny_holding ?_))
    show wpAny _ _ (Builtin.SmallTypes.nextOf (.ref i2) >>= _) _ _ _
    refine wpAny_bind (RZ.nextOf_tuple_end (s := { s with heap := h₂ }) hh ((h2.extBut hs₁.extBut D.i2z).extBut hs₂.extBut D.i12.symm) ((hl2.extBut hs₁.extBut D.l2z).extBut hs₂.extBut D.l2i1) hy fun h₃ e hs₃ he => ?_)
    exact hE h₃ e (fun c o c1 c2 c3 x => hs₃ _ _ c3 (hs₂.extBut _ _ c2 (hs₁.extBut _ _ c1 x))) he
theorem pyNext_zipT_item_held {z TI TO T i1 i2 l1 l2 : Addr} {f : Bool} {oT : Obj} {k1 k2 : Nat} {xs ys : Array Value} {x y : Value} {Q : Option Value → Shared → Prop} (D : ZipApart z TI TO i1 i2 l1 l2)
    (hz : IsZipHeld s.heap z TI TO T f) (hT : s.heap.get? T = some oT) (hTI : IsPair s.heap TI (.ref i1) (.ref i2))
    (h1 : s.heap.IsTupleIter i1 l1 k1) (h2 : s.heap.IsTupleIter i2 l2 k2) (hl1 : s.heap.IsTuple l1 xs) (hl2 : s.heap.IsTuple l2 ys) (hx : xs[k1]? = some x) (hy : ys[k2]? = some y)
    (hQ : ∀ h', IsZipHeld h' z TI TO T true → h'.IsTupleIter i1 l1 (k1 + 1) → h'.IsTupleIter i2 l2 (k2 + 1) → IsPair h' s.heap.objs.size x y → h'.objs.size = s.heap.objs.size + 1 →
      (∀ c o, c ≠ z → c ≠ i1 → c ≠ i2 → s.heap.get? c = some o → h'.get? c = some o) → Q (some (.ref s.heap.objs.size)) { s with heap := h' }) :
    wpAny (model prog w) A (pyNext (.ref z)) Q E s := by
  have hTy : s.TypeIs (.ref z) "zip" := ⟨_, hz, rfl⟩
  unfold pyNext
  exact wpAny_bind (wpAny_attempt (wpAny_callSpecial?_slot (name := Str.ofString "__next__") hTy F.slot_zip_next
    (wpAny_call_entry F.slot_zip_next hTy F.entry_zip_next
      (zipT_next_item_held D hz hT hTI h1 h2 hl1 hl2 hx hy fun h' a1 a3 a4 a5 a6 a7 => wpAny_pure (hQ h' a1 a3 a4 a5 a6 a7)) (F.args_zip_next_1 _))))
theorem pyNext_zipT_end_held {z TI TO T i1 i2 l1 l2 : Addr} {f : Bool} {oT : Obj} {k1 k2 : Nat} {xs ys : Array Value} {Q : Option Value → Shared → Prop} (hh : A.handled = none) (D : ZipApart z TI TO i1 i2 l1 l2)
    (hz : IsZipHeld s.heap z TI TO T f) (hT : s.heap.get? T = some oT) (hTI : IsPair s.heap TI (.ref i1) (.ref i2))
    (h1 : s.heap.IsTupleIter i1 l1 k1) (h2 : s.heap.IsTupleIter i2 l2 k2) (hl1 : s.heap.IsTuple l1 xs) (hl2 : s.heap.IsTuple l2 ys) (hend : xs[k1]? = none ∨ ys[k2]? = none)
    (hQ : ∀ h', (∀ c o, c ≠ z → c ≠ i1 → c ≠ i2 → s.heap.get? c = some o → h'.get? c = some o) → Q none { s with heap := h' }) : wpAny (model prog w) A (pyNext (.ref z)) Q E s := by
  have hTy : s.TypeIs (.ref z) "zip" := ⟨_, hz, rfl⟩
  unfold pyNext
  refine wpAny_bind (wpAny_attempt (wpAny_callSpecial?_slot (name := Str.ofString "__next__") hTy F.slot_zip_next
    (wpAny_call_entry F.slot_zip_next hTy F.entry_zip_next (zipT_next_end_held hh D hz hT hTI h1 h2 hl1 hl2 hend fun h' e hk he => ?_) (F.args_zip_next_1 _))))
  obtain ⟨o, ho, hc⟩ := he
  refine wpAny_bind (wpAny_isInstance (T := "StopIteration") (b := true) ⟨o, ho, hc⟩ isSubtype_stop ?_)
  exact wpAny_pure (hQ _ hk)
end
/-- what gives pairs out, to be kept -/
structure ZW (prog : Program) (w : World) (A : Around) (S z : Addr) (wr : List Addr) (xs ys : Array Value) (St : Nat → Heap → Prop) : Prop where
  lt : ∀ b ∈ wr, b < S
  lz : z < S
  keep : ∀ i h h', St i h → (∀ b o, b ≠ S → h.get? b = some o → h'.get? b = some o) → St i h'
  isz : ∀ i h, St i h → ∃ o, h.get? z = some o ∧ o.cls = .type "zip"
  itr : ∀ i (s : Shared) (Q : Value → Shared → Prop) (E : Value → Shared → Prop), St i s.heap → Q (.ref z) s → wpAny (model prog w) A (pyIter (.ref z)) Q E s
  item : ∀ i (s : Shared) (Q : Option Value → Shared → Prop) (E : Value → Shared → Prop) x y, xs[i]? = some x → ys[i]? = some y → St i s.heap → S < s.heap.objs.size →
    (∀ h', St (i + 1) h' → IsPair h' s.heap.objs.size x y → (∀ c o, c ∉ wr → s.heap.get? c = some o → h'.get? c = some o) → Q (some (.ref s.heap.objs.size)) { s with heap := h' }) → wpAny (model prog w) A (pyNext (.ref z)) Q E s
  done : ∀ i (s : Shared) (Q : Option Value → Shared → Prop) (E : Value → Shared → Prop), (xs[i]? = none ∨ ys[i]? = none) → St i s.heap →
    (∀ h', (∀ c o, c ∉ wr → s.heap.get? c = some o → h'.get? c = some o) → Q none { s with heap := h' }) → wpAny (model prog w) A (pyNext (.ref z)) Q E s
structure ZlG (xs ys : Array Value) (lo : Addr) (h : Heap) (as : List Addr) : Prop where
  rise : as.Pairwise (· < ·)
  above : ∀ a ∈ as, lo < a
  pairs : ∀ (j : Nat) (a : Addr), as[j]? = some a → ∃ x y, xs[j]? = some x ∧ ys[j]? = some y ∧ IsPair h a x y
theorem ZlG.there {xs ys : Array Value} {lo : Addr} {h : Heap} {as : List Addr} (g : ZlG xs ys lo h as) {a : Addr} (ha : a ∈ as) : a < h.objs.size := by
  obtain ⟨j, hj⟩ := List.mem_iff_getElem?.mp ha
  obtain ⟨_, _, _, _, e⟩ := g.pairs j a hj
  exact Heap.lt_size e
section
variable {prog : Program} {w : World} {A : Around} {s : Shared} {R : Result → Shared → Prop} {S z : Addr} {wr : List Addr} {xs ys : Array Value} {St : Nat → Heap → Prop}
theorem zl_loop (W : ZW prog w A.in1 S z wr xs ys St) (hn : min xs.size ys.size ≤ sizeLine) (res : Value) {h₁ : Heap}
    (hR : ∀ h' tk acc c as, (∀ b o, b ≠ S → b ∉ wr → h₁.get? b = some o → h'.get? b = some o) → h'.get? S = some { cls := .type "list", dict := none, data := .seq acc c, slots := #[] } → as.length = min xs.size ys.size → ZlG xs ys S h' as →
      acc.toList = as.map Value.ref → R (.ok (.ret res)) { s with heap := h', toks := tk }) :
    ∀ (k i : Nat) (h : Heap) (tk c : Nat) (acc : Array Value) (as : List Addr), min xs.size ys.size - i = k → i ≤ min xs.size ys.size → St i h → (∀ b o, b ≠ S → b ∉ wr → h₁.get? b = some o → h.get? b = some o) →
      h.get? S = some { cls := .type "list", dict := none, data := .seq acc c, slots := #[] } → acc.toList = as.map Value.ref → as.length = i → ZlG xs ys S h as →
      codeAny (model prog w) A (.builtin "list.extend.loop" ⟨[.ref S, .ref z, res], []⟩) R { s with heap := h, toks := tk } := by
  have hSw : S ∉ wr := fun hm => Nat.lt_irrefl _ (W.lt S hm)
  have hab : ∀ {a}, S < a → a ∉ wr := fun ha hm => absurd (W.lt _ hm) (Nat.not_lt.mpr (Nat.le_of_lt ha))
  intro k
  induction k with
  | zero =>
    intro i h tk c acc as hk hi hst hkeep hS hacc hal hG
    have hin : i = min xs.size ys.size := by omega
    refine codeAny_builtin PySem.F.entry_extend_loop ?_
    rw [Around.under_plainId PySem.F.plain_extend_loop _]
    show wpAny _ A.in1 (pyNext (.ref z) >>= _) _ _ _
    have he : xs[i]? = none ∨ ys[i]? = none := by
      rcases Nat.le_total xs.size ys.size with q | q
      · exact .inl (Array.getElem?_eq_none (by omega))
      · exact .inr (Array.getElem?_eq_none (by omega))
    refine wpAny_bind (W.done i { s with heap := h, toks := tk } _ _ he hst fun h' hk' => ?_)
    refine wpAny_pure (hR h' tk acc c as (fun b o h1 h2 e => hk' b o h2 (hkeep b o h1 h2 e)) (hk' S _ hSw hS) (by omega) ⟨hG.rise, hG.above, fun j a hj => ?_⟩ hacc)
    obtain ⟨x, y, e1, e2, e3⟩ := hG.pairs j a hj
    exact ⟨x, y, e1, e2, hk' a _ (hab (hG.above a (List.mem_of_getElem? hj))) e3⟩
  | succ k ih =>
    intro i h tk c acc as hk hi hst hkeep hS hacc hal hG
    have hx : ∃ x, xs[i]? = some x := ⟨xs[i]'(by omega), Array.getElem?_eq_getElem (by omega)⟩
    have hy : ∃ x, ys[i]? = some x := ⟨ys[i]'(by omega), Array.getElem?_eq_getElem (by omega)⟩
    obtain ⟨x, hx⟩ := hx
    obtain ⟨y, hy⟩ := hy
    have hsz : acc.size = i := by rw [← Array.length_toList, hacc, List.length_map, hal]
    have hSl : S < h.objs.size := Heap.lt_size hS
    refine codeAny_builtin PySem.F.entry_extend_loop ?_
    rw [Around.under_plainId PySem.F.plain_extend_loop _]
    show wpAny _ A.in1 (pyNext (.ref z) >>= _) _ _ _
    refine wpAny_bind (W.item i { s with heap := h, toks := tk } _ _ x y hx hy hst hSl fun h' hst' ht hkp => ?_)
    dsimp only at ht hkp ⊢
    have hS' := hkp S _ hSw hS
    have up : ∀ b o, b ≠ S → h'.get? b = some o → (h'.update S (Obj.mapSeq (·.push (Value.ref h.objs.size)))).get? b = some o := fun b o hb e => (Heap.get?_update_other _ _ (Ne.symm hb)).trans e
    show wpAny _ A.in1 (updateSeq S (·.push (Value.ref h.objs.size)) >>= _) _ _ _
    refine wpAny_bind ?_
    refine wpAny_updateSeq hS' rfl (wpAny_pure ⟨plainId_quiet PySem.F.plain_extend_loop _, ih (i + 1) _ tk _ (acc.push (Value.ref h.objs.size)) (as ++ [h.objs.size]) (by omega) (by omega) (W.keep _ _ _ hst' up)
      (fun b o h1 h2 e => up b o h1 (hkp b o h2 (hkeep b o h1 h2 e))) (Heap.get?_update_self _ hS' rfl) (by rw [Array.toList_push, hacc, List.map_append]; rfl) (by rw [List.length_append, hal]; rfl) ⟨?_, ?_, ?_⟩⟩) (by rw [hsz]; omega) (by show (acc.push (Value.ref h.objs.size)).size ≤ sizeLine + 1; rw [Array.size_push, hsz]; omega)
    · refine List.pairwise_append.mpr ⟨hG.rise, List.pairwise_singleton _ _, fun a ha b hb => ?_⟩
      rw [List.mem_singleton.mp hb]
      exact hG.there ha
    · intro a ha
      rcases List.mem_append.mp ha with ha | ha
      · exact hG.above a ha
      · rw [List.mem_singleton.mp ha]; exact hSl
    · intro j b hj
      rcases Nat.lt_trichotomy j as.length with h1 | h1 | h1
      · rw [List.getElem?_append_left h1] at hj
        obtain ⟨x', y', e1, e2, e3⟩ := hG.pairs j b hj
        have hb := hG.above b (List.mem_of_getElem? hj)
        exact ⟨x', y', e1, e2, up b _ (Nat.ne_of_gt hb) (hkp b _ (hab hb) e3)⟩
      · subst h1
        have hb : h.objs.size = b := by simpa using hj
        subst hb
        exact ⟨x, y, by rw [hal]; exact hx, by rw [hal]; exact hy, up _ _ (Nat.ne_of_gt hSl) ht⟩
      · have hnone : (as ++ [h.objs.size])[j]? = none := List.getElem?_eq_none (by rw [List.length_append, List.length_singleton]; omega)
        rw [hnone] at hj; cases hj
theorem zip_no_len : typeLookup (.type "zip") "__len__" = pure none := am_miss_of_fast (by decide +kernel)
theorem zip_no_hint : typeLookup (.type "zip") "__length_hint__" = pure none := am_miss_of_fast (by decide +kernel)
theorem zl_extend (W : ZW prog w A.in1 S z wr xs ys St) (hn : min xs.size ys.size ≤ sizeLine) (res : Value) (c₀ : Nat) (hst : St 0 s.heap) (hS : s.heap.get? S = some { cls := .type "list", data := .seq #[] c₀ })
    (hR : ∀ h' tk acc c as, (∀ b o, b ≠ S → b ∉ wr → s.heap.get? b = some o → h'.get? b = some o) → h'.get? S = some { cls := .type "list", dict := none, data := .seq acc c, slots := #[] } → as.length = min xs.size ys.size → ZlG xs ys S h' as →
      acc.toList = as.map Value.ref → R (.ok (.ret res)) { s with heap := h', toks := tk }) :
    wpAny (model prog w) A.in1 (Builtin.List.listExtendWith (.ref S) (.ref z) res)
      (fun fin s' => match fin with | .done f => R (.ok f) s' | .again c' => c'.quiet = true ∧ codeAny (model prog w) A c' R s') (fun e s' => R (.error e) s') s := by
  have hSz : S ≠ z := Nat.ne_of_gt W.lz
  have hty : s.TypeIs (.ref z) "zip" := W.isz 0 _ hst
  have key : ∀ (h : Heap) (c₁ tk : Nat), (∀ b o, b ≠ S → s.heap.get? b = some o → h.get? b = some o) →
      h.get? S = some { cls := .type "list", data := .seq #[] c₁ } → codeAny (model prog w) A (.builtin "list.extend.loop" ⟨[.ref S, .ref z, res], []⟩) R { s with heap := h, toks := tk } := by
    intro h c₁ tk hk hS₁
    exact zl_loop (s := s) (h₁ := s.heap) W hn res (fun h' tk' acc c as hk' hS' hl hG hacc => hR h' tk' acc c as hk' hS' hl hG hacc)
      (min xs.size ys.size) 0 h tk c₁ #[] [] (Nat.sub_zero _) (Nat.zero_le _) (W.keep 0 _ _ hst hk) (fun b o hb _ e => hk b o hb e) hS₁ rfl rfl
      ⟨List.Pairwise.nil, (fun _ ha => nomatch ha), (fun j a hj => by simp at hj)⟩
  unfold Builtin.List.listExtendWith
  refine wpAny_bind (wpAny_typeOf (T := "zip") hty ?_)
  have h1 : Builtin.List.listSameRef (.ref S) (.ref z) = false := by simp [Builtin.List.listSameRef, hSz]
  have h2 : (Value.type "zip" == Value.type "list") = false := by decide
  have h3 : (Value.type "zip" == Value.type "tuple") = false := by decide
  simp only [h1, h2, h3, Bool.or_false, Bool.false_eq_true, if_false]
  refine wpAny_bind (W.itr 0 _ _ _ hst ?_)
  refine wpAny_bind (wpAny_holding ?_)
  unfold Builtin.List.listLengthHint
  refine wpAny_bind (wpAny_specialOf hty zip_no_len ?_)
  show wpAny _ A.in1 (specialOf (Value.ref z) (Str.ofString "__length_hint__") >>= _) _ _ _
  refine wpAny_bind (wpAny_specialOf hty zip_no_hint ?_)
  refine wpAny_pure ?_
  show wpAny _ A.in1 (rule "list.extend.makes-room" >>= fun _ => Builtin.List.listTouch (.ref S) >>= fun _ =>
    again (.builtin "list.extend.loop" ⟨[.ref S, .ref z, res], []⟩)) _ _ _
  refine wpAny_bind (wpAny_rule ?_)
  refine wpAny_bind ?_
  show wpAny _ _ (updateSeq S (·.push .none) >>= fun _ => updateSeq S (·.pop)) _ _ _
  refine wpAny_bind (wpAny_updateSeq hS rfl ?_)
  have hS₂ := Heap.get?_update_self (Obj.mapSeq (·.push Value.none)) hS rfl
  refine wpAny_updateSeq (hz := by seq_fits) hS₂ rfl ?_
  have hS₃ := Heap.get?_update_self (Obj.mapSeq (·.pop)) hS₂ rfl
  refine wpAny_pure ⟨plainId_quiet PySem.F.plain_extend_loop _, key _ _ _ (fun b o hb e => ?_) hS₃⟩
  exact (Heap.get?_update_other _ _ (Ne.symm hb)).trans ((Heap.get?_update_other _ _ (Ne.symm hb)).trans e)
theorem zl_init (W : ZW prog w A.in1 S z wr xs ys St) (hn : min xs.size ys.size ≤ sizeLine) (hst : St 0 s.heap) (hS : s.heap.get? S = some { cls := .type "list", data := .seq #[] })
    (hR : ∀ h' tk acc c as, (∀ b o, b ≠ S → b ∉ wr → s.heap.get? b = some o → h'.get? b = some o) → h'.get? S = some { cls := .type "list", dict := none, data := .seq acc c, slots := #[] } → as.length = min xs.size ys.size → ZlG xs ys S h' as →
      acc.toList = as.map Value.ref → R (.ok (.ret .none)) { s with heap := h', toks := tk }) :
    wpAny (model prog w) A.in1 (Builtin.«list.__init__» ⟨[.ref S, .ref z], []⟩)
      (fun fin s' => match fin with | .done f => R (.ok f) s' | .again c' => c'.quiet = true ∧ codeAny (model prog w) A c' R s') (fun e s' => R (.error e) s') s := by
  show wpAny _ _ (do let old ← Builtin.List.listItems (.ref S); Builtin.List.listUpdate (.ref S) (fun _ => #[]); letGo old.toList.reverse; Builtin.List.listExtendWith (.ref S) (.ref z) .none) _ _ s
  refine wpAny_bind ?_
  unfold Builtin.List.listItems
  refine wpAny_bind (wpAny_seqItems hS rfl (wpAny_pure ?_))
  show wpAny _ _ (updateSeq S (fun _ => #[]) >>= fun _ => letGo (#[] : Array Value).toList.reverse >>= fun _ => Builtin.List.listExtendWith (.ref S) (.ref z) .none) _ _ s
  refine wpAny_bind (wpAny_updateSeq hS rfl ?_)
  have hS₂ := Heap.get?_update_self (Obj.mapSeq (fun _ => (#[] : Array Value))) hS rfl
  have oth : ∀ b o, b ≠ S → s.heap.get? b = some o → (s.heap.update S (Obj.mapSeq (fun _ => (#[] : Array Value)))).get? b = some o :=
    fun b o hb e => (Heap.get?_update_other _ _ (Ne.symm hb)).trans e
  refine wpAny_bind (wpAny_letGo ?_)
  refine zl_extend W hn .none _ (W.keep 0 _ _ hst oth) hS₂ (fun h' tk acc c as hk hS' hl hG hacc => ?_)
  exact hR h' tk acc c as (fun b o hb hb2 e => hk b o hb hb2 (oth b o hb e)) hS' hl hG hacc
end
theorem zl_call {prog : Program} {w : World} {A : Around} {s : Shared} {E : Value → Shared → Prop} {z : Addr} {wr : List Addr} {xs ys : Array Value} {St : Nat → Heap → Prop} {Q : Value → Shared → Prop} (W : ZW prog w A.in1.in1 s.heap.objs.size z wr xs ys St) (hn : min xs.size ys.size ≤ sizeLine) (hst : St 0 s.heap)
    (hQ : ∀ h' tk acc c as, (∀ b o, b ∉ wr → s.heap.get? b = some o → h'.get? b = some o) → h'.get? s.heap.objs.size = some { cls := .type "list", dict := none, data := .seq acc c, slots := #[] } → as.length = min xs.size ys.size → ZlG xs ys s.heap.objs.size h' as →
      acc.toList = as.map Value.ref → Q (.ref s.heap.objs.size) { s with heap := h', toks := tk }) :
    wpAny (model prog w) A (call (.type "list") [.ref z]) Q E s := by
  refine callType_codes (Q₁ := fun obj s₁ => obj = .ref s.heap.objs.size ∧ s₁ = { s with heap := s.heap.push { cls := .type "list", data := .seq #[] } }) PySem.F.called_list (PySem.F.typeCall_list_1 _) PySem.F.entry_list_init
    (code_list_new _ ⟨rfl, rfl⟩) fun obj s₁ h₁ => ?_
  obtain ⟨rfl, rfl⟩ := h₁
  have hS : (s.heap.push { cls := .type "list", data := .seq #[] }).get? s.heap.objs.size = some { cls := .type "list", data := .seq #[] } := Heap.get?_push_size _ rfl
  refine ⟨⟨_, hS, rfl⟩, PySem.F.args_list_init_2 _ _, zl_init (A := A.in1) (s := { s with heap := s.heap.push { cls := .type "list", data := .seq #[] } }) W hn (W.keep 0 _ _ hst fun b o hb e => Heap.get?_push_of_some _ e) hS (fun h' tk acc c as hk hS' hl hG hacc => ?_)⟩
  exact ⟨rfl, hQ h' tk acc c as (fun b o hb e => hk b o (Nat.ne_of_lt (Heap.lt_size e)) hb (Heap.get?_push_of_some _ e)) hS' hl hG hacc⟩
end RT
namespace RT
open PySem PySem.Spec PyProof.Rows L2
/-- the tuples tracked at their addresses -/
def putP : Hp → List Addr → List (V × V) → Hp
  | H, a :: as, p :: ps => putP (upd H a (.tup [p.1, p.2])) as ps
  | H, _, _ => H
theorem putP_off {b : Addr} : ∀ (as : List Addr) (ps : List (V × V)) (H : Hp), b ∉ as → putP H as ps b = H b
  | [], _, _, _ => rfl
  | _ :: _, [], _, _ => rfl
  | a :: as, p :: ps, H, h => by
    show putP (upd H a (.tup [p.1, p.2])) as ps b = H b
    rw [putP_off as ps _ (fun z => h (List.mem_cons_of_mem _ z)), upd_ne (fun z => h (by rw [z]; exact List.mem_cons_self))]
theorem putP_at : ∀ (as : List Addr) (ps : List (V × V)) (H : Hp), as.length = ps.length → as.Nodup → Paired (fun (t : Addr) (p : V × V) => putP H as ps t = some (.tup [p.1, p.2])) as ps
  | [], [], _, _, _ => .nil
  | [], _ :: _, _, h, _ => by cases h
  | _ :: _, [], _, h, _ => by cases h
  | a :: as, p :: ps, H, h, hn => by
    have hn' := List.nodup_cons.mp hn
    have ih := putP_at as ps (upd H a (.tup [p.1, p.2])) (Nat.succ.inj h) hn'.2
    refine .cons ?_ ih
    show putP (upd H a (.tup [p.1, p.2])) as ps a = some (.tup [p.1, p.2])
    rw [putP_off as ps _ hn'.1, upd_same]
section
variable {X : L2.Cx} {e : Expr} {te : TE} {p apos cpos pos : Pos}
theorem zip_laid {pins : List (Addr × Obj)} {σ : L2.St} {H : Hp} {s : Shared} {h' : Heap} {tk S : Nat} {us ws : List V} {xs ys : List Value} {acc : Array Value} {c : Nat} {as wr : List Addr} (I : Inv X pins σ H s) (hz : us.length ≤ sizeLine) (kv : Vals us xs) (kw : Vals ws ys)
    (hSz : s.heap.objs.size ≤ S) (hwr : ∀ b ∈ wr, s.heap.objs.size ≤ b)
    (hk : ∀ b o, s.heap.get? b = some o → h'.get? b = some o) (hS : h'.get? S = some { cls := .type "list", dict := none, data := .seq acc c, slots := #[] }) (hl : as.length = (us.zip ws).length) (hG : ZlG xs.toArray ys.toArray S h' as) (hacc : acc.toList = as.map Value.ref) :
    ∃ H' : Hp, (∀ b o, H b = some o → H' b = some o) ∧ H S = none ∧ (∀ t ∈ as, H t = none) ∧ S ∉ as ∧ H' S = some (.lst (as.map V.ref)) ∧ Paired (fun (t : Addr) (q : V × V) => H' t = some (.tup [q.1, q.2])) as (us.zip ws) ∧ Inv X pins σ H' { s with heap := h', toks := tk } := by
  have hSn : S ∉ as := fun z => Nat.lt_irrefl _ (hG.above _ z)
  have nd : as.Nodup := List.Pairwise.imp (fun {a b} (h : a < b) => Nat.ne_of_lt h) hG.rise
  have new : ∀ t ∈ as, H t = none := fun t ht => I.hok.fresh (Nat.le_trans hSz (Nat.le_of_lt (hG.above t ht)))
  have newS : H S = none := I.hok.fresh hSz
  have atP := putP_at as (us.zip ws) (upd H S (.lst (as.map V.ref))) hl nd
  have off : ∀ b, b ∉ as → b ≠ S → putP (upd H S (.lst (as.map V.ref))) as (us.zip ws) b = H b := fun b h1 h2 => by rw [putP_off as _ _ h1, upd_ne h2]
  have low : ∀ b o, s.heap.get? b = some o → b ∉ as ∧ b ≠ S := fun b o e => ⟨fun z => absurd (Heap.lt_size e) (Nat.not_lt.mpr (Nat.le_trans hSz (Nat.le_of_lt (hG.above b z)))), Nat.ne_of_lt (Nat.lt_of_lt_of_le (Heap.lt_size e) hSz)⟩
  have kp : ∀ b u, H b = some u → (putP (upd H S (.lst (as.map V.ref))) as (us.zip ws)) b = some u := fun b u e => by
    rw [off b (fun z => by rw [new b z] at e; cases e) (fun z => by rw [z, newS] at e; cases e)]
    exact e
  have eS : putP (upd H S (.lst (as.map V.ref))) as (us.zip ws) S = some (.lst (as.map V.ref)) := by rw [putP_off as _ _ hSn, upd_same]
  refine ⟨putP (upd H S (.lst (as.map V.ref))) as (us.zip ws), kp, newS, new, hSn, eS, atP, ?_⟩
  refine I.call' (ch := []) rfl ⟨fun b o q _ _ _ => hk b o q, fun b o q _ _ _ => ⟨o.slots, hk b o q⟩, fun b o q n _ => ?_, fun b o q _ => ⟨o, hk b o q⟩, fun b xs q => kp b _ q, fun b o u q => kp b _ q, fun b ps q => ⟨#[], by rw [kp b _ q]; simp⟩⟩ (fun b u q => ?_) I.bare fun b z => by simp at z
  · obtain ⟨z1, z2⟩ := low b o q
    rw [off b z1 z2]
    exact n
  · by_cases hb : b ∈ as
    · obtain ⟨j, pk, e1, e2, e3⟩ := LiI.paired_ix atP hb
      rw [e3] at q
      cases q
      obtain ⟨x, y, f1, f2, f3⟩ := hG.pairs j b e1
      rw [List.getElem?_zip_eq_some] at e2
      obtain ⟨v, g1, g2⟩ := LiI.paired_get kv e2.1
      obtain ⟨v', g1', g2'⟩ := LiI.paired_get kw e2.2
      rw [List.getElem?_toArray, g1] at f1
      rw [List.getElem?_toArray, g1'] at f2
      cases f1
      cases f2
      exact ⟨by show 2 ≤ sizeLine; decide, [x, y], .cons g2 (.cons g2' .nil), ⟨_, f3, rfl, _, rfl⟩⟩
    · by_cases hb2 : b = S
      · rw [hb2] at q ⊢
        rw [eS] at q
        cases q
        refine ⟨by rw [List.length_map, hl, List.length_zip]; omega, acc.toList, c, by rw [hacc]; exact LiI.vals_refs as, ?_⟩
        rw [Array.toArray_toList]
        exact hS
      · rw [off b hb hb2] at q
        exact (I.hok b u q).stay (fun d v _ y => hk d v y) (fun d y => kp d _ y) fun d xs y => kp d _ y
end
theorem iter_zip_any {prog : Program} {w : World} {A : Around} {E : Value → Shared → Prop} {s : Shared} {z : Addr} {Q : Value → Shared → Prop} (hT : s.TypeIs (.ref z) "zip") (h : Q (.ref z) s) : wpAny (model prog w) A (pyIter (.ref z)) Q E s := by
  refine wpAny_pyIter_slot hT F.slot_zip_iter (wpAny_call_entry F.slot_zip_iter hT F.entry_zip_iter ?_ (F.args_zip_iter_1 _))
  show wpAny _ _ (ret (.ref z)) _ _ s
  exact wpAny_pure ⟨_, rfl, "zip", _, hT, F.slot_zip_next.lookup, h⟩
/-- the list walk of zip -/
theorem zw_list {prog : Program} {w : World} {A : Around} (hh : A.handled = none) {S z TI TO i1 i2 l1 l2 : Addr} (D : ZipApart z TI TO i1 i2 l1 l2) (hS : z < S ∧ TI < S ∧ TO < S ∧ i1 < S ∧ i2 < S ∧ l1 < S ∧ l2 < S) (xs ys : Array Value) :
    ZW prog w A S z [z, TO, i1, i2] xs ys fun i h => IsPair h TI (.ref i1) (.ref i2) ∧ h.IsListIter i1 l1 i ∧ h.IsListIter i2 l2 i ∧ h.IsList l1 xs ∧ h.IsList l2 ys ∧
      ((IsZip h z TI TO .none ∧ ∃ a b, IsPair h TO a b) ∨ ∃ T f oT, IsZipHeld h z TI TO T f ∧ h.get? T = some oT ∧ T ∉ [z, TO, i1, i2] ∧ T ≠ S) where
  lt := fun b hb => by
    simp at hb
    rcases hb with rfl | rfl | rfl | rfl
    · exact hS.1
    · exact hS.2.2.1
    · exact hS.2.2.2.1
    · exact hS.2.2.2.2.1
  lz := hS.1
  keep := fun i h h' ⟨a1, a2, a3, a4, a5, a6⟩ hk => by
    obtain ⟨s1, s2, s3, s4, s5, s6, s7⟩ := hS
    refine ⟨hk _ _ (Nat.ne_of_lt s2) a1, a2.at fun o e => hk _ o (Nat.ne_of_lt s4) e, a3.at fun o e => hk _ o (Nat.ne_of_lt s5) e, a4.at fun o e => hk _ o (Nat.ne_of_lt s6) e, a5.at fun o e => hk _ o (Nat.ne_of_lt s7) e, ?_⟩
    rcases a6 with ⟨b1, x, y, b2⟩ | ⟨T, f, oT, b1, b2, b3, b4⟩
    · exact .inl ⟨hk _ _ (Nat.ne_of_lt s1) b1, x, y, hk _ _ (Nat.ne_of_lt s3) b2⟩
    · exact .inr ⟨T, f, oT, hk _ _ (Nat.ne_of_lt s1) b1, hk _ _ b4 b2, b3, b4⟩
  isz := fun i h ⟨_, _, _, _, _, a6⟩ => by
    rcases a6 with ⟨b1, _⟩ | ⟨T, f, oT, b1, _⟩
    · exact ⟨_, b1, rfl⟩
    · exact ⟨_, b1, rfl⟩
  itr := fun i s Q E ⟨_, _, _, _, _, a6⟩ q => by
    rcases a6 with ⟨b1, _⟩ | ⟨T, f, oT, b1, _⟩
    · exact wpAny_pyIter_zip b1 q
    · exact iter_zip_any ⟨_, b1, rfl⟩ q
  item := fun i s Q E x y hx hy ⟨a1, a2, a3, a4, a5, a6⟩ hSs hQ => by
    rcases a6 with ⟨b1, u, v, b2⟩ | ⟨T, f, oT, b1, b2, b3, b4⟩
    · refine wpAny_pyNext_zip_item D b1 a1 b2 a2 a3 a4 a5 hx hy fun h' c1 c2 c3 c4 c5 c6 hk => ?_
      have hk' : ∀ c o, c ∉ [z, TO, i1, i2] → s.heap.get? c = some o → h'.get? c = some o := fun c o hc e => hk c o (fun q => hc (by simp [q])) (fun q => hc (by simp [q])) (fun q => hc (by simp [q])) (fun q => hc (by simp [q])) e
      have big : ∀ b, b < S → s.heap.objs.size ≠ b := fun b hb => Nat.ne_of_gt (Nat.lt_trans hb hSs)
      refine hQ h' ⟨hk _ _ D.TIz D.TITO D.TIi1 D.TIi2 a1, c3, c4, a4.at fun o e => hk _ o D.l1z D.l1TO D.l1i1 D.l1i2 e, a5.at fun o e => hk _ o D.l2z D.l2TO D.l2i1 D.l2i2 e, .inr ⟨s.heap.objs.size, false, _, c1, c5, ?_, Nat.ne_of_gt hSs⟩⟩ c5 hk'
      obtain ⟨s1, s2, s3, s4, s5, s6, s7⟩ := hS
      intro hm
      simp at hm
      rcases hm with hm | hm | hm | hm
      · exact big _ s1 hm
      · exact big _ s3 hm
      · exact big _ s4 hm
      · exact big _ s5 hm
    · refine wpAny_pyNext_zip_item_held D b1 b2 a1 a2 a3 a4 a5 hx hy fun h' c1 c3 c4 c5 c6 hk => ?_
      have n := fun (q : T ∈ [z, TO, i1, i2]) => b3 q
      refine hQ h' ⟨hk _ _ D.TIz D.TIi1 D.TIi2 a1, c3, c4, a4.at fun o e => hk _ o D.l1z D.l1i1 D.l1i2 e, a5.at fun o e => hk _ o D.l2z D.l2i1 D.l2i2 e, .inr ⟨T, true, oT, c1, hk _ _ (fun q => b3 (by simp [q])) (fun q => b3 (by simp [q])) (fun q => b3 (by simp [q])) b2, b3, b4⟩⟩ c5
        fun c o hc e => hk c o (fun q => hc (by simp [q])) (fun q => hc (by simp [q])) (fun q => hc (by simp [q])) e
  done := fun i s Q E he ⟨a1, a2, a3, a4, a5, a6⟩ hQ => by
    rcases a6 with ⟨b1, u, v, b2⟩ | ⟨T, f, oT, b1, b2, b3, b4⟩
    · exact wpAny_pyNext_zip_end hh D b1 a1 b2 a2 a3 a4 a5 he fun h' hk => hQ h' fun c o hc e => hk c o (fun q => hc (by simp [q])) (fun q => hc (by simp [q])) (fun q => hc (by simp [q])) (fun q => hc (by simp [q])) e
    · exact wpAny_pyNext_zip_end_held hh D b1 b2 a1 a2 a3 a4 a5 he fun h' hk => hQ h' fun c o hc e => hk c o (fun q => hc (by simp [q])) (fun q => hc (by simp [q])) (fun q => hc (by simp [q])) e
/-- the tuple walk of zip -/
theorem zw_tup {prog : Program} {w : World} {A : Around} (hh : A.handled = none) {S z TI TO i1 i2 l1 l2 : Addr} (D : ZipApart z TI TO i1 i2 l1 l2) (hS : z < S ∧ TI < S ∧ TO < S ∧ i1 < S ∧ i2 < S ∧ l1 < S ∧ l2 < S) (xs ys : Array Value) :
    ZW prog w A S z [z, TO, i1, i2] xs ys fun i h => IsPair h TI (.ref i1) (.ref i2) ∧ h.IsTupleIter i1 l1 i ∧ h.IsTupleIter i2 l2 i ∧ h.IsTuple l1 xs ∧ h.IsTuple l2 ys ∧
      ((IsZip h z TI TO .none ∧ ∃ a b, IsPair h TO a b) ∨ ∃ T f oT, IsZipHeld h z TI TO T f ∧ h.get? T = some oT ∧ T ∉ [z, TO, i1, i2] ∧ T ≠ S) where
  lt := fun b hb => by
    simp at hb
    rcases hb with rfl | rfl | rfl | rfl
    · exact hS.1
    · exact hS.2.2.1
    · exact hS.2.2.2.1
    · exact hS.2.2.2.2.1
  lz := hS.1
  keep := fun i h h' ⟨a1, a2, a3, a4, a5, a6⟩ hk => by
    obtain ⟨s1, s2, s3, s4, s5, s6, s7⟩ := hS
    refine ⟨hk _ _ (Nat.ne_of_lt s2) a1, a2.at fun o e => hk _ o (Nat.ne_of_lt s4) e, a3.at fun o e => hk _ o (Nat.ne_of_lt s5) e, a4.at fun o e => hk _ o (Nat.ne_of_lt s6) e, a5.at fun o e => hk _ o (Nat.ne_of_lt s7) e, ?_⟩
    rcases a6 with ⟨b1, x, y, b2⟩ | ⟨T, f, oT, b1, b2, b3, b4⟩
    · exact .inl ⟨hk _ _ (Nat.ne_of_lt s1) b1, x, y, hk _ _ (Nat.ne_of_lt s3) b2⟩
    · exact .inr ⟨T, f, oT, hk _ _ (Nat.ne_of_lt s1) b1, hk _ _ b4 b2, b3, b4⟩
  isz := fun i h ⟨_, _, _, _, _, a6⟩ => by
    rcases a6 with ⟨b1, _⟩ | ⟨T, f, oT, b1, _⟩
    · exact ⟨_, b1, rfl⟩
    · exact ⟨_, b1, rfl⟩
  itr := fun i s Q E ⟨_, _, _, _, _, a6⟩ q => by
    rcases a6 with ⟨b1, _⟩ | ⟨T, f, oT, b1, _⟩
    · exact wpAny_pyIter_zip b1 q
    · exact iter_zip_any ⟨_, b1, rfl⟩ q
  item := fun i s Q E x y hx hy ⟨a1, a2, a3, a4, a5, a6⟩ hSs hQ => by
    rcases a6 with ⟨b1, u, v, b2⟩ | ⟨T, f, oT, b1, b2, b3, b4⟩
    · refine RZ.pyNext_zipT_item D b1 a1 b2 a2 a3 a4 a5 hx hy fun h' c1 c2 c3 c4 c5 c6 hk => ?_
      have hk' : ∀ c o, c ∉ [z, TO, i1, i2] → s.heap.get? c = some o → h'.get? c = some o := fun c o hc e => hk c o (fun q => hc (by simp [q])) (fun q => hc (by simp [q])) (fun q => hc (by simp [q])) (fun q => hc (by simp [q])) e
      have big : ∀ b, b < S → s.heap.objs.size ≠ b := fun b hb => Nat.ne_of_gt (Nat.lt_trans hb hSs)
      refine hQ h' ⟨hk _ _ D.TIz D.TITO D.TIi1 D.TIi2 a1, c3, c4, a4.at fun o e => hk _ o D.l1z D.l1TO D.l1i1 D.l1i2 e, a5.at fun o e => hk _ o D.l2z D.l2TO D.l2i1 D.l2i2 e, .inr ⟨s.heap.objs.size, false, _, c1, c5, ?_, Nat.ne_of_gt hSs⟩⟩ c5 hk'
      obtain ⟨s1, s2, s3, s4, s5, s6, s7⟩ := hS
      intro hm
      simp at hm
      rcases hm with hm | hm | hm | hm
      · exact big _ s1 hm
      · exact big _ s3 hm
      · exact big _ s4 hm
      · exact big _ s5 hm
    · refine pyNext_zipT_item_held D b1 b2 a1 a2 a3 a4 a5 hx hy fun h' c1 c3 c4 c5 c6 hk => ?_
      have n := fun (q : T ∈ [z, TO, i1, i2]) => b3 q
      refine hQ h' ⟨hk _ _ D.TIz D.TIi1 D.TIi2 a1, c3, c4, a4.at fun o e => hk _ o D.l1z D.l1i1 D.l1i2 e, a5.at fun o e => hk _ o D.l2z D.l2i1 D.l2i2 e, .inr ⟨T, true, oT, c1, hk _ _ (fun q => b3 (by simp [q])) (fun q => b3 (by simp [q])) (fun q => b3 (by simp [q])) b2, b3, b4⟩⟩ c5
        fun c o hc e => hk c o (fun q => hc (by simp [q])) (fun q => hc (by simp [q])) (fun q => hc (by simp [q])) e
  done := fun i s Q E he ⟨a1, a2, a3, a4, a5, a6⟩ hQ => by
    rcases a6 with ⟨b1, u, v, b2⟩ | ⟨T, f, oT, b1, b2, b3, b4⟩
    · exact RZ.pyNext_zipT_end hh D b1 a1 b2 a2 a3 a4 a5 he fun h' hk => hQ h' fun c o hc e => hk c o (fun q => hc (by simp [q])) (fun q => hc (by simp [q])) (fun q => hc (by simp [q])) (fun q => hc (by simp [q])) e
    · exact pyNext_zipT_end_held hh D b1 b2 a1 a2 a3 a4 a5 he fun h' hk => hQ h' fun c o hc e => hk c o (fun q => hc (by simp [q])) (fun q => hc (by simp [q])) (fun q => hc (by simp [q])) e
end RT
namespace Lr
open PySem PySem.Spec PyProof.Rows L2
/-- list(zip(x, y)), two lists or two tuples -/
def tLstZip (K : PySem.W.Frag) (ta : TA) : TE := fun σ H Q => ta σ H fun vs H1 => ∃ (a b : Addr) (us ws : List V), vs = [.ref a, .ref b] ∧ ((SqL K H1 a us ∧ SqL K H1 b ws) ∨ (SqT K H1 a us ∧ SqT K H1 b ws)) ∧
  ∀ (H' : Hp) (p : Addr) (ts : List Addr), (∀ b o, H1 b = some o → H' b = some o) → H1 p = none → H' p = some (.lst (ts.map V.ref)) → Paired (fun (t : Addr) (q : V × V) => H' t = some (.tup [q.1, q.2])) ts (us.zip ws) → Q (.ref p) H'
theorem pe_listZip {X : L2.Cx} {e e2 : Expr} {ta : TA} {p p2 pos pos2 : Pos} (hc : X.calm = true) (hg : Gl X "list") (hm : X.mg "list" = none) (hg2 : Gl X "zip") (hm2 : X.mg "zip" = none) (ha : PA X [e, e2] ta)
    (hs : starEach [.Call (.Name "zip" p2) [e, e2] [] pos2] X.env = (false, eval (.Call (.Name "zip" p2) [e, e2] [] pos2) X.env) :: starEach [] X.env)
    (hs2 : starEach [e, e2] X.env = (false, eval e X.env) :: starEach [e2] X.env) (hpl : (backTo pos2 (starEach [e2] X.env)).any (·.1) = false) :
    PE X (.Call (.Name "list" p) [.Call (.Name "zip" p2) [e, e2] [] pos2] [] pos) (tLstZip X.K ta) := by
  refine ⟨fun pins s σ H Q I h => ?_⟩
  refine Call_ (ld_blt I hg hm boot_list (PyProof.Rows.callWith_type1 (args_cons (Call_ (ld_blt I hg2 hm2 PyProof.Rows.boot_zip (PyProof.Rows.callWith_type1 (thn (ha.run pos2 pins s σ H _ I h) fun us s1 ⟨vs, H1, I1, r1, q1⟩ => ?_) hs2 hpl))) hs) hs rfl))
  obtain ⟨a, b, us, ws, ex, hq, q⟩ := q1
  subst ex
  cases r1 with
  | cons r rr =>
    cases rr with
    | cons r' rr =>
      cases rr
      cases r
      cases r'
      rcases hq with ⟨hqx, hqy⟩ | ⟨hqx, hqy⟩
      · obtain ⟨its, rv, p1, hz1⟩ := I1.list hqx
        obtain ⟨its2, rv2, p2, hz2⟩ := I1.list hqy
        refine call_zip_2 p1.isList p2.isList fun h' hz hTI hTO h1 h2 hsz hk => args_nil ?_
        have D := PySem.W.ktu_apart s1.heap.objs.size a b p1.lt p2.lt
        have l1 := p1.lt
        have l2 := p2.lt
        have W := RT.zw_list (prog := X.prog) (w := X.w) (A := X.A.in1.in1) (I1.ok.hd hc) (S := h'.objs.size) D (by rw [hsz]; exact ⟨Nat.add_lt_add_left (by decide : 4 < 5) _, Nat.add_lt_add_left (by decide : 2 < 5) _, Nat.add_lt_add_left (by decide : 3 < 5) _, Nat.add_lt_add_left (by decide : 0 < 5) _, Nat.add_lt_add_left (by decide : 1 < 5) _, Nat.lt_of_lt_of_le l1 (Nat.le_add_right _ _), Nat.lt_of_lt_of_le l2 (Nat.le_add_right _ _)⟩) its.toArray its2.toArray
        refine RT.zl_call (s := { s1 with heap := h' }) W (by rw [List.size_toArray, ← rv.length]; exact Nat.le_trans (Nat.min_le_left _ _) hz1) ⟨hTI, h1, h2, p1.isList.at fun o e => hk _ o e, p2.isList.at fun o e => hk _ o e, .inl ⟨hz, _, _, hTO⟩⟩ fun h2' tk acc c as hk2 hS hl hG hacc => ?_
        obtain ⟨H', k1, k2, k3, k4, k5, k6, J⟩ := RT.zip_laid (tk := tk) (wr := []) I1 hz1 rv rv2 (S := h'.objs.size) (by rw [hsz]; omega) (by simp) (fun b' o e => hk2 b' o (fun hm => by
          have hlt := Heap.lt_size e
          simp only [List.mem_cons, List.not_mem_nil, or_false] at hm
          rcases hm with hm | hm | hm | hm
          · rw [hm] at hlt; exact absurd hlt (Nat.not_lt.mpr (Nat.le_add_right _ _))
          · rw [hm] at hlt; exact absurd hlt (Nat.not_lt.mpr (Nat.le_add_right _ _))
          · rw [hm] at hlt; exact absurd hlt (Nat.lt_irrefl _)
          · rw [hm] at hlt; exact absurd hlt (Nat.not_lt.mpr (Nat.le_add_right _ _))) (hk b' o e)) hS (by rw [hl, List.length_zip, List.size_toArray, List.size_toArray, rv.length, rv2.length]) hG hacc
        exact ⟨.ref _, H', J, rfl, q H' _ as k1 k2 k5 k6⟩
      · obtain ⟨its, rv, p1, hz1⟩ := I1.tuple hqx
        obtain ⟨its2, rv2, p2, hz2⟩ := I1.tuple hqy
        obtain ⟨o1, ho1, _⟩ := id p1
        obtain ⟨o2, ho2, _⟩ := id p2
        have l1 := Heap.lt_size ho1
        have l2 := Heap.lt_size ho2
        refine RZ.call_zipT (show s1.heap.IsTuple a its.toArray from p1) (show s1.heap.IsTuple b its2.toArray from p2) fun h' hz hTI hTO h1 h2 hsz hk => args_nil ?_
        have D := PySem.W.ktu_apart s1.heap.objs.size a b l1 l2
        have W := RT.zw_tup (prog := X.prog) (w := X.w) (A := X.A.in1.in1) (I1.ok.hd hc) (S := h'.objs.size) D (by rw [hsz]; exact ⟨Nat.add_lt_add_left (by decide : 4 < 5) _, Nat.add_lt_add_left (by decide : 2 < 5) _, Nat.add_lt_add_left (by decide : 3 < 5) _, Nat.add_lt_add_left (by decide : 0 < 5) _, Nat.add_lt_add_left (by decide : 1 < 5) _, Nat.lt_of_lt_of_le l1 (Nat.le_add_right _ _), Nat.lt_of_lt_of_le l2 (Nat.le_add_right _ _)⟩) its.toArray its2.toArray
        refine RT.zl_call (s := { s1 with heap := h' }) W (by rw [List.size_toArray, ← rv.length]; exact Nat.le_trans (Nat.min_le_left _ _) hz1) ⟨hTI, h1, h2, RT.tup_at p1 fun o e => hk _ o e, RT.tup_at p2 fun o e => hk _ o e, .inl ⟨hz, _, _, hTO⟩⟩ fun h2' tk acc c as hk2 hS hl hG hacc => ?_
        obtain ⟨H', k1, k2, k3, k4, k5, k6, J⟩ := RT.zip_laid (tk := tk) (wr := []) I1 hz1 rv rv2 (S := h'.objs.size) (by rw [hsz]; omega) (by simp) (fun b' o e => hk2 b' o (fun hm => by
          have hlt := Heap.lt_size e
          simp only [List.mem_cons, List.not_mem_nil, or_false] at hm
          rcases hm with hm | hm | hm | hm
          · rw [hm] at hlt; exact absurd hlt (Nat.not_lt.mpr (Nat.le_add_right _ _))
          · rw [hm] at hlt; exact absurd hlt (Nat.not_lt.mpr (Nat.le_add_right _ _))
          · rw [hm] at hlt; exact absurd hlt (Nat.lt_irrefl _)
          · rw [hm] at hlt; exact absurd hlt (Nat.not_lt.mpr (Nat.le_add_right _ _))) (hk b' o e)) hS (by rw [hl, List.length_zip, List.size_toArray, List.size_toArray, rv.length, rv2.length]) hG hacc
        exact ⟨.ref _, H', J, rfl, q H' _ as k1 k2 k5 k6⟩
end Lr

set_option Elab.async false
set_option linter.all false
set_option maxRecDepth 100000
set_option maxHeartbeats 4000000
/-! enumerate(a tuple) -/
namespace PySem
/-- the iterator of a tuple, the walk over it with numbers -/
abbrev etI (l : Addr) : Obj := { cls := .type "tuple_iterator", data := .fields #[.ref l, .int 0 0] }
abbrev etE (it : Addr) : Obj := { cls := .type "enumerate", data := .fields #[.none, .bool false, .ref it, rawInt 0, .none, .none] }
set_option maxHeartbeats 1000000 in
theorem et_new (l : Addr) (us : Array Value) : Meets (Builtin.«enumerate.__new__» ⟨[.type "enumerate", .ref l], []⟩) (fun _ R s => s.heap.IsTuple l us ∧
    R (.ok (.ret (.ref (s.heap.push (etI l)).objs.size))) { s with heap := (s.heap.push (etI l)).push (etE s.heap.objs.size) }) := .of_wp fun prog w A R s h => by
  obtain ⟨hp, gg, dd, tk, oo⟩ := s
  obtain ⟨ht, hh⟩ := h
  have enSub := sub_enumerate
  have go : ∀ {A' : Around} {E : Value → Shared → Prop} {Q : Value → Shared → Prop}, Q (.ref hp.objs.size) ⟨hp.push (etI l), gg, dd, tk, oo⟩ → wpAny (model prog w) A' (pyIter (.ref l)) Q E ⟨hp, gg, dd, tk, oo⟩ := fun q => wpAny_pyIter_tuple (s := ⟨hp, gg, dd, tk, oo⟩) ht q
  wp_walk using go
  refine wpAny_stack_any fun _ => wpAny_pure ?_
  split
  · rename_i c _ _ _ _ _
    cases (c == Value.type "enumerate") <;> (wp_walk using go) <;> exact ⟨_, rfl, hh⟩
  · wp_walk using go
    exact ⟨_, rfl, hh⟩
section
variable {prog : Program} {w : World} {A : Around} {E : Value → Shared → Prop} {s : Shared}
theorem et_call {l : Addr} {us : Array Value} {Q : Value → Shared → Prop} (ht : s.heap.IsTuple l us)
    (h : ∀ h2, IsEnum h2 (s.heap.objs.size + 1) s.heap.objs.size 0 .none → h2.IsTupleIter s.heap.objs.size l 0 → h2.objs.size = s.heap.objs.size + 2 → (∀ b o, s.heap.get? b = some o → h2.get? b = some o) → Q (.ref (s.heap.objs.size + 1)) { s with heap := h2 }) :
    wpAny (model prog w) A (call (.type "enumerate") [.ref l]) Q E s := by
  have z1 : (s.heap.push (etI l)).objs.size = s.heap.objs.size + 1 := Heap.size_push ..
  have g1 := Heap.get?_push_size (s.heap.push (etI l)) (o := etE s.heap.objs.size) rfl
  have g0 := Heap.get?_push_of_some (etE s.heap.objs.size) (Heap.get?_push_size s.heap (o := etI l) rfl)
  refine callType_new F.called_enumerate (by decide) (F.typeCall_enumerate_1 _) (F.newCall_enumerate_1 _) (fun ob => F.args_object_init_2 ob _) F.entry_enumerate_new (et_new l us) ⟨ht, ?_⟩
  rw [z1] at g1
  show _ ∧ _
  rw [z1]
  exact ⟨⟨_, g1, rfl⟩, h _ g1 ⟨_, g0, rfl, rfl⟩ (by rw [Heap.size_push, z1]) fun b o e => Heap.get?_push_of_some _ (Heap.get?_push_of_some _ e)⟩
end
end PySem
namespace Lr
open PySem PySem.Spec PyProof.Rows L2
/-- the tuple at a, each item in a new pair -/
def IteT (K : PySem.W.Frag) (a : Addr) : It :=
  ⟨fun i H => ∃ (ys : List V) (y : V), SqT K H a ys ∧ ys[i]? = some y, fun i H v H2 => ∃ T y, v = .ref T ∧ H T = none ∧ H2 = upd H T (.tup [.int (i : Nat), y]) ∧ ∀ ys, SqT K H a ys → ys[i]? = some y, fun i H => ∃ ys : List V, SqT K H a ys ∧ ys.length ≤ i⟩
theorem turn_enumT {P : Program} {w : World} {K : PySem.W.Frag} {elts : List Expr} {kk : Nat} {tpos : Pos} (a e it : Addr) :
    Turn P w K (.Tuple elts kk tpos) (IteT K a) [e, it] e (fun i h => (∃ old, IsEnum h e it ((i : Nat) : Int) old) ∧ h.IsTupleIter it a i ∧ e ≠ it) where
  mem := List.mem_cons_self ..
  obj := fun i h ⟨⟨_, he⟩, ⟨oi, hoi, _, hdi⟩, _⟩ b hb => by
    rcases List.mem_cons.mp hb with rfl | hb
    · exact ⟨_, he, fun v z => nomatch z⟩
    · rw [List.mem_singleton.mp hb]
      exact ⟨oi, hoi, fun v z => by rw [hdi] at z; cases z⟩
  keep := fun i h h2 ⟨⟨old, he⟩, hi, hn⟩ kp => ⟨⟨old, kp e (by simp) _ he⟩, hi.at fun o z => kp it (by simp) o z, hn⟩
  item := by
    intro X hP hw hK hc i pins s σ H E I hf st hg
    subst hP hw hK
    obtain ⟨⟨old, he⟩, hti, hn⟩ := st
    obtain ⟨ys, y, hsq, hy⟩ := hg
    obtain ⟨vs, rvs, tp, _⟩ := I.tuple hsq
    obtain ⟨u, hu, ru⟩ := rvs.get hy
    have hTup : s.heap.IsTuple a vs.toArray := tp
    have hEl := Heap.lt_size he
    have hIl : it < s.heap.objs.size := by obtain ⟨_, z, _⟩ := hti; exact Heap.lt_size z
    have aNi : a ≠ it := fun z => by
      obtain ⟨o1, g1, c1, _⟩ := hTup
      obtain ⟨o2, g2, c2, _⟩ := hti
      rw [z, g2] at g1; cases g1; rw [c2] at c1; exact absurd c1 (by decide)
    have aNe : a ≠ e := fun z => by
      obtain ⟨o1, g1, c1, _⟩ := hTup
      rw [z, he] at g1; cases g1; simp at c1
    have hlt : i < vs.toArray.size := by
      have := (List.getElem?_eq_some_iff.mp hu).1
      rw [List.size_toArray]; exact this
    refine wpAny_pyNext_enum_itemC (Draws.tuple (A := X.A.in1) (I.ok.hd hc) it a aNi vs.toArray) he ⟨hti, hTup⟩ hlt hn (by simp [hn, Ne.symm aNe]) fun x h1 tk1 hx ho hst hT hsz hk => ?_
    have ex : x = u := by
      have hx : vs.toArray[i]? = some x := hx
      have hu2 : vs.toArray[i]? = some u := by simpa using hu
      rw [hu2] at hx; exact (Option.some.inj hx).symm
    subst ex
    refine ⟨_, rfl, wpAny_letOwnedTupleGo_enum (s := { s with heap := h1, toks := tk1 + 1 }) ho fun h3 he3 sb => ?_⟩
    have hT3 : h3.get? s.heap.objs.size = some { cls := .type "tuple", data := .seq #[.int i tk1, x] } := (sb.2 _ (Nat.ne_of_gt hEl)).trans hT
    have nw : ObjOk X.prog X.w (upd H s.heap.objs.size (.tup [.int (i : Nat), y])) h3 s.heap.objs.size (.tup [.int (i : Nat), y]) :=
      ⟨show 2 ≤ sizeLine by decide, [.int i tk1, x], .cons ⟨_, rfl⟩ (.cons ru .nil), ⟨_, hT3, rfl, _, rfl⟩⟩
    have kp : ∀ b ob, b ∉ [e, it] → s.heap.get? b = some ob → h3.get? b = some ob := fun b ob hb g => (sb.2 b fun z => hb (by simp [z])).trans (hk b ob (fun z => hb (by simp [z])) (fun z => hb (by simp [z])) g)
    have I3 : Inv X pins σ (upd H s.heap.objs.size (.tup [.int (i : Nat), y])) { s with heap := h3, toks := tk1 + 1 } := I.turnedNew (ch := [e, it]) kp hf (Nat.le_refl _) nw
    have ei : ((i + 1 : Nat) : Int) = (i : Int) + 1 := by omega
    refine ⟨.ref s.heap.objs.size, _, I3, rfl, ⟨_, y, rfl, I.hok.fresh (Nat.le_refl _), rfl, fun zs hz => by rw [I.tuple_inj hz hsq]; exact hy⟩, ⟨⟨x, by rw [ei]; exact he3⟩, hst.1.at fun o g => (sb.2 it (Ne.symm hn)).trans g, hn⟩, fun b hb => ?_⟩
    have hb2 : b < s.heap.objs.size := by
      rcases List.mem_cons.mp hb with rfl | hb
      · exact hEl
      · rw [List.mem_singleton.mp hb]; exact hIl
    rw [upd_ne (Nat.ne_of_lt hb2)]; exact (hf b hb).1
  done := by
    intro X hP hw hK hc i pins s σ H E I hf st hg
    subst hP hw hK
    obtain ⟨⟨old, he⟩, hti, hn⟩ := st
    obtain ⟨ys, hsq, hy⟩ := hg
    obtain ⟨vs, rvs, tp, _⟩ := I.tuple hsq
    have hTup : s.heap.IsTuple a vs.toArray := tp
    obtain ⟨k0, k1, k2, k3, k4, k5⟩ := hf it (by simp)
    have aNi : a ≠ it := fun z => by
      obtain ⟨o1, g1, c1, _⟩ := hTup
      obtain ⟨o2, g2, c2, _⟩ := hti
      rw [z, g2] at g1; cases g1; rw [c2] at c1; exact absurd c1 (by decide)
    have hlen := rvs.length
    unfold pyNext
    have hTy : s.TypeIs (.ref e) "enumerate" := ⟨_, he, rfl⟩
    refine wpAny_bind (wpAny_attempt (wpAny_callSpecial?_slot (name := Str.ofString "__next__") hTy F.slot_enumerate_next (wpAny_call_entry F.slot_enumerate_next hTy F.entry_enumerate_next ?_ (F.args_enumerate_next_1 _))))
    show wpAny _ _ (field (.ref e) 2 >>= _) _ _ _
    refine wpAny_bind (wpAny_field he rfl (x := .ref it) rfl (wpAny_bind (wpAny_nextOf_tuple_end (I.ok.hd hc) hti hTup (by simp; omega) fun h2 x eb ⟨o, ho, hoc⟩ => ?_)))
    refine wpAny_bind (wpAny_isInstance (T := "StopIteration") (b := true) ⟨o, ho, hoc⟩ isSubtype_stop (wpAny_pure ⟨rfl, I.turned (t' := s.toks) (fun b ob hb g => eb b ob hb g) k0 k1 k3 k4 k5⟩))
  self := fun A i s Q E ⟨⟨_, he⟩, _⟩ hq => wpAny_pyIter_enum he hq
def iEnumA (K : PySem.W.Frag) (ta : TA) : TI := fun σ H R => ta σ H fun vs H1 => ∃ a ys, vs = [.ref a] ∧ ((SqL K H1 a ys ∧ R (Ite K a) H1) ∨ (SqT K H1 a ys ∧ R (IteT K a) H1))
theorem pi_enumA {X : L2.Cx} {e : Expr} {ta : TA} {p pos tpos : Pos} {elts : List Expr} {kk : Nat} (hg : Gl X "enumerate") (hm : X.mg "enumerate" = none) (ha : PA X [e] ta) (hs : starEach [e] X.env = [(false, eval e X.env)] := by rfl) :
    PI X (.Tuple elts kk tpos) (.Call (.Name "enumerate" p) [e] [] pos) (iEnumA X.K ta) := by
  refine ⟨fun pins s σ H R I h => ?_⟩
  refine Call_ (ld_blt I hg hm boot_enumerate (PyProof.Rows.callWith_type1 (thn (ha.run pos pins s σ H _ I h) fun us s1 ⟨vs, H1, I1, rr, a, ys, ex, q1⟩ => ?_) hs rfl))
  subst ex
  obtain ⟨v, rfl, rv⟩ := vals1 rr
  obtain rfl : v = Value.ref a := rv
  have big : ∀ (h2 : Heap) (b : Addr), Inv X pins σ H1 { s1 with heap := h2 } → b ∈ [s1.heap.objs.size + 1, s1.heap.objs.size] → FpOk X pins H1 b := fun h2 b _ hb => by
    have hle : s1.heap.objs.size ≤ b := by
      rcases List.mem_cons.mp hb with rfl | hb
      · exact Nat.le_succ _
      · rw [List.mem_singleton.mp hb]; exact Nat.le_refl _
    exact I1.fpOk hle (I1.hok.fresh hle)
  rcases q1 with ⟨hsq, q⟩ | ⟨hsq, q⟩
  · obtain ⟨ws, _, pl, _⟩ := I1.list hsq
    refine call_enumerate_list pl.isList fun h2 he hi _ hk => wpAny_pyIter_enum he ?_
    have I2 : Inv X pins σ H1 { s1 with heap := h2 } := I1.kept (t' := s1.toks) hk
    exact ⟨s1.heap.objs.size + 1, [s1.heap.objs.size + 1, s1.heap.objs.size], _, _, H1, rfl, I2, turn_enum a (s1.heap.objs.size + 1) s1.heap.objs.size, ⟨⟨.none, he⟩, hi, Nat.succ_ne_self _⟩, fun b hb => big h2 b I2 hb, q⟩
  · obtain ⟨ws, _, tp, _⟩ := I1.tuple hsq
    refine et_call (us := ws.toArray) tp fun h2 he hi _ hk => wpAny_pyIter_enum he ?_
    have I2 : Inv X pins σ H1 { s1 with heap := h2 } := I1.kept (t' := s1.toks) hk
    exact ⟨s1.heap.objs.size + 1, [s1.heap.objs.size + 1, s1.heap.objs.size], _, _, H1, rfl, I2, turn_enumT a (s1.heap.objs.size + 1) s1.heap.objs.size, ⟨⟨.none, he⟩, hi, Nat.succ_ne_self _⟩, fun b hb => big h2 b I2 hb, q⟩
end Lr

set_option Elab.async false
set_option linter.all false
set_option maxRecDepth 100000
set_option maxHeartbeats 4000000
/-! zip of a tuple and a list; a tuple turned about -/
namespace PySem
abbrev zmA (h : Heap) (l1 : Addr) : Heap := h.push { cls := .type "tuple_iterator", data := .fields #[.ref l1, .int 0 0] }
abbrev zmB (h : Heap) (l1 l2 : Addr) : Heap := (zmA h l1).push { cls := .type "list_iterator", data := .fields #[.ref l2, .int 0 0] }
abbrev zmC (h : Heap) (l1 l2 : Addr) : Heap := (zmB h l1 l2).push { cls := .type "tuple", data := .seq #[.ref h.objs.size, .ref (zmA h l1).objs.size] }
abbrev zmD (h : Heap) (l1 l2 : Addr) : Heap := (zmC h l1 l2).push { cls := .type "tuple", data := .seq #[.none, .none] }
abbrev zmE (h : Heap) (l1 l2 : Addr) : Heap := (zmD h l1 l2).push { cls := .type "zip", data := .fields #[.none, .bool false, .bool false, .ref (zmB h l1 l2).objs.size, .ref (zmC h l1 l2).objs.size] }
theorem zm_new (l1 l2 : Addr) (xs ys : Array Value) :
    Meets (Builtin.«zip.__new__» ⟨[.type "zip", .ref l1, .ref l2], []⟩) (fun _ R s => s.heap.IsTuple l1 xs ∧ s.heap.IsList l2 ys ∧
      R (.ok (.ret (.ref (zmD s.heap l1 l2).objs.size))) { s with heap := zmE s.heap l1 l2 }) :=
  .of_wp fun prog w A R s h => by
    obtain ⟨hp, g, d, tk, os⟩ := s
    obtain ⟨a1, a2, h⟩ := h
    have zs := sub_zip
    have go1 : ∀ {A' : Around} {E : Value → Shared → Prop} {Q : Value → Shared → Prop}, Q (.ref hp.objs.size) ⟨zmA hp l1, g, d, tk, os⟩ → wpAny (model prog w) A' (pyIter (.ref l1)) Q E ⟨hp, g, d, tk, os⟩ := fun q => wpAny_pyIter_tuple (s := ⟨hp, g, d, tk, os⟩) a1 q
    have b2 : Heap.IsList (Shared.heap ⟨zmA hp l1, g, d, tk, os⟩) l2 ys := Heap.IsList.push a2 _
    wp_walk using go1, wpAny_pyIter_list b2
    exact ⟨_, rfl, h⟩
section
variable {prog : Program} {w : World} {A : Around} {E : Value → Shared → Prop} {s : Shared}
theorem zm_call {l1 l2 : Addr} {xs ys : Array Value} {Q : Value → Shared → Prop} (a1 : s.heap.IsTuple l1 xs) (a2 : s.heap.IsList l2 ys)
    (h : ∀ h', IsZip h' (s.heap.objs.size + 4) (s.heap.objs.size + 2) (s.heap.objs.size + 3) .none → IsPair h' (s.heap.objs.size + 2) (.ref s.heap.objs.size) (.ref (s.heap.objs.size + 1)) →
      IsPair h' (s.heap.objs.size + 3) .none .none → h'.IsTupleIter s.heap.objs.size l1 0 → h'.IsListIter (s.heap.objs.size + 1) l2 0 → h'.objs.size = s.heap.objs.size + 5 →
      (∀ c o, s.heap.get? c = some o → h'.get? c = some o) → Q (.ref (s.heap.objs.size + 4)) { s with heap := h' }) :
    wpAny (model prog w) A (call (.type "zip") [.ref l1, .ref l2]) Q E s := by
  refine callType_new F.called_zip (by decide) (F.typeCall_zip_2 _ _) (F.newCall_zip_2 _ _) (fun obj => F.args_object_init_3 obj _ _) F.entry_zip_new (zm_new l1 l2 xs ys) ⟨a1, a2, ?_⟩
  have n1 : (zmA s.heap l1).objs.size = s.heap.objs.size + 1 := Heap.size_push ..
  have n2 : (zmB s.heap l1 l2).objs.size = s.heap.objs.size + 2 := by rw [Heap.size_push, n1]
  have n3 : (zmC s.heap l1 l2).objs.size = s.heap.objs.size + 3 := by rw [Heap.size_push, n2]
  have n4 : (zmD s.heap l1 l2).objs.size = s.heap.objs.size + 4 := by rw [Heap.size_push, n3]
  have n5 : (zmE s.heap l1 l2).objs.size = s.heap.objs.size + 5 := by rw [Heap.size_push, n4]
  have up : ∀ {h : Heap} {o o' : Obj} {c : Addr}, h.get? c = some o → (h.push o').get? c = some o := fun e => Heap.get?_push_of_some _ e
  have e5 : (zmE s.heap l1 l2).get? (zmD s.heap l1 l2).objs.size = some _ := Heap.get?_push_size _ rfl
  have e4 : (zmE s.heap l1 l2).get? (zmC s.heap l1 l2).objs.size = some _ := up (Heap.get?_push_size _ rfl)
  have e3 : (zmE s.heap l1 l2).get? (zmB s.heap l1 l2).objs.size = some _ := up (up (Heap.get?_push_size _ rfl))
  have e2 : (zmE s.heap l1 l2).get? (zmA s.heap l1).objs.size = some _ := up (up (up (Heap.get?_push_size _ rfl)))
  have e1 : (zmE s.heap l1 l2).get? s.heap.objs.size = some _ := up (up (up (up (Heap.get?_push_size _ rfl))))
  show _ ∧ _
  rw [n2, n3, n4] at e5
  rw [n1, n2] at e3
  rw [n3] at e4
  rw [n1] at e2
  rw [n4]
  exact ⟨⟨_, e5, rfl⟩, h _ e5 e3 e4 ⟨_, e1, rfl, rfl⟩ ⟨_, e2, rfl, rfl⟩ n5 fun c o x => up (up (up (up (up x))))⟩
end
abbrev znA (h : Heap) (l1 : Addr) : Heap := h.push { cls := .type "list_iterator", data := .fields #[.ref l1, .int 0 0] }
abbrev znB (h : Heap) (l1 l2 : Addr) : Heap := (znA h l1).push { cls := .type "tuple_iterator", data := .fields #[.ref l2, .int 0 0] }
abbrev znC (h : Heap) (l1 l2 : Addr) : Heap := (znB h l1 l2).push { cls := .type "tuple", data := .seq #[.ref h.objs.size, .ref (znA h l1).objs.size] }
abbrev znD (h : Heap) (l1 l2 : Addr) : Heap := (znC h l1 l2).push { cls := .type "tuple", data := .seq #[.none, .none] }
abbrev znE (h : Heap) (l1 l2 : Addr) : Heap := (znD h l1 l2).push { cls := .type "zip", data := .fields #[.none, .bool false, .bool false, .ref (znB h l1 l2).objs.size, .ref (znC h l1 l2).objs.size] }
theorem zn_new (l1 l2 : Addr) (xs ys : Array Value) :
    Meets (Builtin.«zip.__new__» ⟨[.type "zip", .ref l1, .ref l2], []⟩) (fun _ R s => s.heap.IsList l1 xs ∧ s.heap.IsTuple l2 ys ∧
      R (.ok (.ret (.ref (znD s.heap l1 l2).objs.size))) { s with heap := znE s.heap l1 l2 }) :=
  .of_wp fun prog w A R s h => by
    obtain ⟨hp, g, d, tk, os⟩ := s
    obtain ⟨a1, a2, h⟩ := h
    have zs := sub_zip
    have b1 : Heap.IsList (Shared.heap ⟨hp, g, d, tk, os⟩) l1 xs := a1
    have b2 : Heap.IsTuple (znA hp l1) l2 ys := by
      obtain ⟨o, e, r⟩ := a2
      exact ⟨o, Heap.get?_push_of_some _ e, r⟩
    have go2 : ∀ {A' : Around} {E : Value → Shared → Prop} {Q : Value → Shared → Prop}, Q (.ref (znA hp l1).objs.size) ⟨znB hp l1 l2, g, d, tk, os⟩ → wpAny (model prog w) A' (pyIter (.ref l2)) Q E ⟨znA hp l1, g, d, tk, os⟩ := fun q => wpAny_pyIter_tuple (s := ⟨znA hp l1, g, d, tk, os⟩) b2 q
    wp_walk using wpAny_pyIter_list b1, go2
    exact ⟨_, rfl, h⟩
section
variable {prog : Program} {w : World} {A : Around} {E : Value → Shared → Prop} {s : Shared}
theorem zn_call {l1 l2 : Addr} {xs ys : Array Value} {Q : Value → Shared → Prop} (a1 : s.heap.IsList l1 xs) (a2 : s.heap.IsTuple l2 ys)
    (h : ∀ h', IsZip h' (s.heap.objs.size + 4) (s.heap.objs.size + 2) (s.heap.objs.size + 3) .none → IsPair h' (s.heap.objs.size + 2) (.ref s.heap.objs.size) (.ref (s.heap.objs.size + 1)) →
      IsPair h' (s.heap.objs.size + 3) .none .none → h'.IsListIter s.heap.objs.size l1 0 → h'.IsTupleIter (s.heap.objs.size + 1) l2 0 → h'.objs.size = s.heap.objs.size + 5 →
      (∀ c o, s.heap.get? c = some o → h'.get? c = some o) → Q (.ref (s.heap.objs.size + 4)) { s with heap := h' }) :
    wpAny (model prog w) A (call (.type "zip") [.ref l1, .ref l2]) Q E s := by
  refine callType_new F.called_zip (by decide) (F.typeCall_zip_2 _ _) (F.newCall_zip_2 _ _) (fun obj => F.args_object_init_3 obj _ _) F.entry_zip_new (zn_new l1 l2 xs ys) ⟨a1, a2, ?_⟩
  have n1 : (znA s.heap l1).objs.size = s.heap.objs.size + 1 := Heap.size_push ..
  have n2 : (znB s.heap l1 l2).objs.size = s.heap.objs.size + 2 := by rw [Heap.size_push, n1]
  have n3 : (znC s.heap l1 l2).objs.size = s.heap.objs.size + 3 := by rw [Heap.size_push, n2]
  have n4 : (znD s.heap l1 l2).objs.size = s.heap.objs.size + 4 := by rw [Heap.size_push, n3]
  have n5 : (znE s.heap l1 l2).objs.size = s.heap.objs.size + 5 := by rw [Heap.size_push, n4]
  have up : ∀ {h : Heap} {o o' : Obj} {c : Addr}, h.get? c = some o → (h.push o').get? c = some o := fun e => Heap.get?_push_of_some _ e
  have e5 : (znE s.heap l1 l2).get? (znD s.heap l1 l2).objs.size = some _ := Heap.get?_push_size _ rfl
  have e4 : (znE s.heap l1 l2).get? (znC s.heap l1 l2).objs.size = some _ := up (Heap.get?_push_size _ rfl)
  have e3 : (znE s.heap l1 l2).get? (znB s.heap l1 l2).objs.size = some _ := up (up (Heap.get?_push_size _ rfl))
  have e2 : (znE s.heap l1 l2).get? (znA s.heap l1).objs.size = some _ := up (up (up (Heap.get?_push_size _ rfl)))
  have e1 : (znE s.heap l1 l2).get? s.heap.objs.size = some _ := up (up (up (up (Heap.get?_push_size _ rfl))))
  show _ ∧ _
  rw [n2, n3, n4] at e5
  rw [n1, n2] at e3
  rw [n3] at e4
  rw [n1] at e2
  rw [n4]
  exact ⟨⟨_, e5, rfl⟩, h _ e5 e3 e4 ⟨_, e1, rfl, rfl⟩ ⟨_, e2, rfl, rfl⟩ n5 fun c o x => up (up (up (up (up x))))⟩
end
end PySem
namespace Lr
open PySem PySem.Spec PyProof.Rows L2
/-- the tuple at a beside the list at b, the items in new pairs -/
def ItzM (K : PySem.W.Frag) (a b : Addr) : It :=
  ⟨fun i H => ∃ (xs ys : List V) (x y : V), SqT K H a xs ∧ SqL K H b ys ∧ xs[i]? = some x ∧ ys[i]? = some y,
    fun i H v H' => ∃ T x y, v = .ref T ∧ H T = none ∧ H' = upd H T (.tup [x, y]) ∧ (∀ xs, SqT K H a xs → xs[i]? = some x) ∧ ∀ ys, SqL K H b ys → ys[i]? = some y,
    fun i H => ∃ xs ys : List V, SqT K H a xs ∧ SqL K H b ys ∧ i ≤ xs.length ∧ i ≤ ys.length ∧ (i = xs.length ∨ i = ys.length)⟩
theorem sep2 {z TI TO i1 i2 a b : Addr} (D : ZipApart z TI TO i1 i2 a b) : ZipSep2 z TI TO i1 i2 [i1, a] [i2, b] where
  TIz := D.TIz
  TOz := D.TOz
  TITO := D.TITO
  TIi1 := D.TIi1
  mem1 := by simp
  zf1 := by simp [Ne.symm D.i1z, Ne.symm D.l1z]
  Tf1 := by simp [D.TOi1, Ne.symm D.l1TO]
  TIi2 := D.TIi2
  mem2 := by simp
  zf2 := by simp [Ne.symm D.i2z, Ne.symm D.l2z]
  Tf2 := by simp [D.TOi2, Ne.symm D.l2TO]
  sep1_2 := by simp [D.i12, Ne.symm D.l2i1]
  sep2_1 := by simp [Ne.symm D.i12, Ne.symm D.l1i2]
theorem turn_zipM {P : Program} {w : World} {K : PySem.W.Frag} {elts : List Expr} {kk : Nat} {tpos : Pos} {a b z TI TO i1 i2 : Addr} (D : ZipApart z TI TO i1 i2 a b) :
    Turn P w K (.Tuple elts kk tpos) (ItzM K a b) [z, TI, TO, i1, i2] z (fun i h => IsZip h z TI TO .none ∧ IsPair h TI (.ref i1) (.ref i2) ∧ (∃ x y, IsPair h TO x y) ∧ h.IsTupleIter i1 a i ∧ h.IsListIter i2 b i) where
  mem := by simp
  obj := fun i h st c hc => by
    obtain ⟨hz, hTI, ⟨x, y, hTO⟩, ⟨o1, e1, _, d1⟩, ⟨o2, e2, _, d2⟩⟩ := st
    simp only [List.mem_cons, List.not_mem_nil, or_false] at hc
    rcases hc with rfl | rfl | rfl | rfl | rfl
    · exact ⟨_, hz, fun v q => nomatch q⟩
    · exact ⟨_, hTI, fun v q => nomatch q⟩
    · exact ⟨_, hTO, fun v q => nomatch q⟩
    · exact ⟨o1, e1, fun v q => by rw [d1] at q; cases q⟩
    · exact ⟨o2, e2, fun v q => by rw [d2] at q; cases q⟩
  keep := fun i h h' ⟨hz, hTI, ⟨x, y, hTO⟩, h1, h2⟩ k => ⟨k z (by simp) _ hz, k TI (by simp) _ hTI, ⟨x, y, k TO (by simp) _ hTO⟩, h1.at fun o q => k i1 (by simp) o q, h2.at fun o q => k i2 (by simp) o q⟩
  item := by
    intro X hP hw hK hc i pins s σ H E I hf st hg
    subst hP hw hK
    obtain ⟨hz, hTI, ⟨x0, y0, hTO⟩, h1, h2⟩ := st
    obtain ⟨xs, ys, x, y, hqx, hqy, hx, hy⟩ := hg
    obtain ⟨its, rv, p, _⟩ := I.tuple hqx
    obtain ⟨its2, rv2, p2, _⟩ := I.list hqy
    obtain ⟨u, hu, ru⟩ := rv.get hx
    obtain ⟨u2, hu2, ru2⟩ := rv2.get hy
    have hzl : z < s.heap.objs.size := Heap.lt_size hz
    have hTup : s.heap.IsTuple a its.toArray := p
    have l1 : i < its.toArray.size := by rw [List.size_toArray]; exact (List.getElem?_eq_some_iff.mp hu).1
    have l2 : i < its2.toArray.size := by rw [List.size_toArray]; exact (List.getElem?_eq_some_iff.mp hu2).1
    refine wpAny_pyNext_zipD2_item (sep2 D) (Draws.tuple (A := X.A.in1) (I.ok.hd hc) i1 a D.l1i1 its.toArray) (Draws.list (A := X.A.in1) (I.ok.hd hc) i2 b D.l2i2 its2.toArray) hz hTI hTO ⟨h1, hTup⟩ ⟨h2, p2.isList⟩ l1 l2 fun v1 v2 h' tk e1 e2 z' TO' s1 s2 hT hsz hk => ?_
    obtain rfl : v1 = u := by
      have e1 : its.toArray[i]? = some v1 := e1
      have : its.toArray[i]? = some u := by simpa using hu
      rw [this] at e1; exact (Option.some.inj e1).symm
    obtain rfl : v2 = u2 := by
      have e2 : its2.toArray[i]? = some v2 := e2
      have : its2.toArray[i]? = some u2 := by simpa using hu2
      rw [this] at e2; exact (Option.some.inj e2).symm
    refine ⟨_, rfl, wpAny_letOwnedTupleGo_zip (s := { s with heap := h', toks := tk }) z' fun h'' z'' sb => ?_⟩
    have hT2 : h''.get? s.heap.objs.size = some { cls := .type "tuple", data := .seq #[v1, v2] } := (sb.2 _ (Nat.ne_of_gt hzl)).trans hT
    have new : ObjOk X.prog X.w (upd H s.heap.objs.size (.tup [x, y])) h'' s.heap.objs.size (.tup [x, y]) :=
      ⟨show 2 ≤ sizeLine by decide, [v1, v2], .cons ru (.cons ru2 .nil), ⟨_, hT2, rfl, _, rfl⟩⟩
    have I1 : Inv X pins σ (upd H s.heap.objs.size (.tup [x, y])) { s with heap := h'', toks := tk } :=
      I.turnedNew (ch := [z, TI, TO, i1, i2]) (fun c o hb q => (sb.2 c (fun q' => hb (by simp [q']))).trans (hk c o (fun q' => hb (by simp [q'])) (fun q' => hb (by simp [q'])) (fun q' => hb (by simp [q'])) (fun q' => hb (by simp [q'])) q)) hf (Nat.le_refl _) new
    refine ⟨.ref s.heap.objs.size, _, I1, rfl, ⟨_, x, y, rfl, I.hok.fresh (Nat.le_refl _), rfl, fun l hl => by rw [I.tuple_inj hl hqx]; exact hx, fun l hl => by rw [I.list_inj hl hqy]; exact hy⟩, ⟨z'', ?_, ⟨v1, v2, ?_⟩, ?_, ?_⟩, fun c hcm => ?_⟩
    · exact (sb.2 _ D.TIz).trans (hk _ _ D.TIz D.TITO D.TIi1 D.TIi2 hTI)
    · exact (sb.2 _ D.TOz).trans TO'
    · exact s1.1.at fun o q => (sb.2 _ D.i1z).trans q
    · exact s2.1.at fun o q => (sb.2 _ D.i2z).trans q
    · have hlt : c < s.heap.objs.size := by
        simp only [List.mem_cons, List.not_mem_nil, or_false] at hcm
        rcases hcm with rfl | rfl | rfl | rfl | rfl
        · exact hzl
        · exact Heap.lt_size hTI
        · exact Heap.lt_size hTO
        · obtain ⟨_, e, _⟩ := h1; exact Heap.lt_size e
        · obtain ⟨_, e, _⟩ := h2; exact Heap.lt_size e
      rw [upd_ne (Nat.ne_of_lt hlt)]
      exact (hf c hcm).1
  done := by
    intro X hP hw hK hc i pins s σ H E I hf st hg
    subst hP hw hK
    obtain ⟨hz, hTI, ⟨x0, y0, hTO⟩, h1, h2⟩ := st
    obtain ⟨xs, ys, hqx, hqy, b1, b2, b3⟩ := hg
    obtain ⟨its, rv, p, _⟩ := I.tuple hqx
    obtain ⟨its2, rv2, p2, _⟩ := I.list hqy
    have hTup : s.heap.IsTuple a its.toArray := p
    have l1 := rv.length
    have l2 := rv2.length
    have m1 : its.toArray.size = xs.length := by rw [List.size_toArray]; exact l1.symm
    have m2 : its2.toArray.size = ys.length := by rw [List.size_toArray]; exact l2.symm
    exact wpAny_pyNext_zipD2_end (sep2 D) (Draws.tuple (A := X.A.in1) (I.ok.hd hc) i1 a D.l1i1 its.toArray) (Draws.list (A := X.A.in1) (I.ok.hd hc) i2 b D.l2i2 its2.toArray) hz hTI hTO ⟨h1, hTup⟩ ⟨h2, p2.isList⟩ (by rw [m1]; exact b1) (by rw [m2]; exact b2) (by rw [m1, m2]; exact b3) fun h' tk hk => ⟨rfl, I.turnedL (t' := tk) (ch := [z, TI, TO, i1, i2]) (fun c o hb q =>
      hk c o (fun q' => hb (by simp [q'])) (fun q' => hb (by simp [q'])) (fun q' => hb (by simp [q'])) (fun q' => hb (by simp [q'])) q) hf⟩
  self := fun A i s Q E st h => wpAny_pyIter_zip st.1 h
/-- the list at a beside the tuple at b, the items in new pairs -/
def ItzN (K : PySem.W.Frag) (a b : Addr) : It :=
  ⟨fun i H => ∃ (xs ys : List V) (x y : V), SqL K H a xs ∧ SqT K H b ys ∧ xs[i]? = some x ∧ ys[i]? = some y,
    fun i H v H' => ∃ T x y, v = .ref T ∧ H T = none ∧ H' = upd H T (.tup [x, y]) ∧ (∀ xs, SqL K H a xs → xs[i]? = some x) ∧ ∀ ys, SqT K H b ys → ys[i]? = some y,
    fun i H => ∃ xs ys : List V, SqL K H a xs ∧ SqT K H b ys ∧ i ≤ xs.length ∧ i ≤ ys.length ∧ (i = xs.length ∨ i = ys.length)⟩
theorem turn_zipN {P : Program} {w : World} {K : PySem.W.Frag} {elts : List Expr} {kk : Nat} {tpos : Pos} {a b z TI TO i1 i2 : Addr} (D : ZipApart z TI TO i1 i2 a b) :
    Turn P w K (.Tuple elts kk tpos) (ItzN K a b) [z, TI, TO, i1, i2] z (fun i h => IsZip h z TI TO .none ∧ IsPair h TI (.ref i1) (.ref i2) ∧ (∃ x y, IsPair h TO x y) ∧ h.IsListIter i1 a i ∧ h.IsTupleIter i2 b i) where
  mem := by simp
  obj := fun i h st c hc => by
    obtain ⟨hz, hTI, ⟨x, y, hTO⟩, ⟨o1, e1, _, d1⟩, ⟨o2, e2, _, d2⟩⟩ := st
    simp only [List.mem_cons, List.not_mem_nil, or_false] at hc
    rcases hc with rfl | rfl | rfl | rfl | rfl
    · exact ⟨_, hz, fun v q => nomatch q⟩
    · exact ⟨_, hTI, fun v q => nomatch q⟩
    · exact ⟨_, hTO, fun v q => nomatch q⟩
    · exact ⟨o1, e1, fun v q => by rw [d1] at q; cases q⟩
    · exact ⟨o2, e2, fun v q => by rw [d2] at q; cases q⟩
  keep := fun i h h' ⟨hz, hTI, ⟨x, y, hTO⟩, h1, h2⟩ k => ⟨k z (by simp) _ hz, k TI (by simp) _ hTI, ⟨x, y, k TO (by simp) _ hTO⟩, h1.at fun o q => k i1 (by simp) o q, h2.at fun o q => k i2 (by simp) o q⟩
  item := by
    intro X hP hw hK hc i pins s σ H E I hf st hg
    subst hP hw hK
    obtain ⟨hz, hTI, ⟨x0, y0, hTO⟩, h1, h2⟩ := st
    obtain ⟨xs, ys, x, y, hqx, hqy, hx, hy⟩ := hg
    obtain ⟨its, rv, p, _⟩ := I.list hqx
    obtain ⟨its2, rv2, p2, _⟩ := I.tuple hqy
    obtain ⟨u, hu, ru⟩ := rv.get hx
    obtain ⟨u2, hu2, ru2⟩ := rv2.get hy
    have hzl : z < s.heap.objs.size := Heap.lt_size hz
    have hTup : s.heap.IsTuple b its2.toArray := p2
    have l1 : i < its.toArray.size := by rw [List.size_toArray]; exact (List.getElem?_eq_some_iff.mp hu).1
    have l2 : i < its2.toArray.size := by rw [List.size_toArray]; exact (List.getElem?_eq_some_iff.mp hu2).1
    refine wpAny_pyNext_zipD2_item (sep2 D) (Draws.list (A := X.A.in1) (I.ok.hd hc) i1 a D.l1i1 its.toArray) (Draws.tuple (A := X.A.in1) (I.ok.hd hc) i2 b D.l2i2 its2.toArray) hz hTI hTO ⟨h1, p.isList⟩ ⟨h2, hTup⟩ l1 l2 fun v1 v2 h' tk e1 e2 z' TO' s1 s2 hT hsz hk => ?_
    obtain rfl : v1 = u := by
      have e1 : its.toArray[i]? = some v1 := e1
      have : its.toArray[i]? = some u := by simpa using hu
      rw [this] at e1; exact (Option.some.inj e1).symm
    obtain rfl : v2 = u2 := by
      have e2 : its2.toArray[i]? = some v2 := e2
      have : its2.toArray[i]? = some u2 := by simpa using hu2
      rw [this] at e2; exact (Option.some.inj e2).symm
    refine ⟨_, rfl, wpAny_letOwnedTupleGo_zip (s := { s with heap := h', toks := tk }) z' fun h'' z'' sb => ?_⟩
    have hT2 : h''.get? s.heap.objs.size = some { cls := .type "tuple", data := .seq #[v1, v2] } := (sb.2 _ (Nat.ne_of_gt hzl)).trans hT
    have new : ObjOk X.prog X.w (upd H s.heap.objs.size (.tup [x, y])) h'' s.heap.objs.size (.tup [x, y]) :=
      ⟨show 2 ≤ sizeLine by decide, [v1, v2], .cons ru (.cons ru2 .nil), ⟨_, hT2, rfl, _, rfl⟩⟩
    have I1 : Inv X pins σ (upd H s.heap.objs.size (.tup [x, y])) { s with heap := h'', toks := tk } :=
      I.turnedNew (ch := [z, TI, TO, i1, i2]) (fun c o hb q => (sb.2 c (fun q' => hb (by simp [q']))).trans (hk c o (fun q' => hb (by simp [q'])) (fun q' => hb (by simp [q'])) (fun q' => hb (by simp [q'])) (fun q' => hb (by simp [q'])) q)) hf (Nat.le_refl _) new
    refine ⟨.ref s.heap.objs.size, _, I1, rfl, ⟨_, x, y, rfl, I.hok.fresh (Nat.le_refl _), rfl, fun l hl => by rw [I.list_inj hl hqx]; exact hx, fun l hl => by rw [I.tuple_inj hl hqy]; exact hy⟩, ⟨z'', ?_, ⟨v1, v2, ?_⟩, ?_, ?_⟩, fun c hcm => ?_⟩
    · exact (sb.2 _ D.TIz).trans (hk _ _ D.TIz D.TITO D.TIi1 D.TIi2 hTI)
    · exact (sb.2 _ D.TOz).trans TO'
    · exact s1.1.at fun o q => (sb.2 _ D.i1z).trans q
    · exact s2.1.at fun o q => (sb.2 _ D.i2z).trans q
    · have hlt : c < s.heap.objs.size := by
        simp only [List.mem_cons, List.not_mem_nil, or_false] at hcm
        rcases hcm with rfl | rfl | rfl | rfl | rfl
        · exact hzl
        · exact Heap.lt_size hTI
        · exact Heap.lt_size hTO
        · obtain ⟨_, e, _⟩ := h1; exact Heap.lt_size e
        · obtain ⟨_, e, _⟩ := h2; exact Heap.lt_size e
      rw [upd_ne (Nat.ne_of_lt hlt)]
      exact (hf c hcm).1
  done := by
    intro X hP hw hK hc i pins s σ H E I hf st hg
    subst hP hw hK
    obtain ⟨hz, hTI, ⟨x0, y0, hTO⟩, h1, h2⟩ := st
    obtain ⟨xs, ys, hqx, hqy, b1, b2, b3⟩ := hg
    obtain ⟨its, rv, p, _⟩ := I.list hqx
    obtain ⟨its2, rv2, p2, _⟩ := I.tuple hqy
    have hTup : s.heap.IsTuple b its2.toArray := p2
    have l1 := rv.length
    have l2 := rv2.length
    have m1 : its.toArray.size = xs.length := by rw [List.size_toArray]; exact l1.symm
    have m2 : its2.toArray.size = ys.length := by rw [List.size_toArray]; exact l2.symm
    exact wpAny_pyNext_zipD2_end (sep2 D) (Draws.list (A := X.A.in1) (I.ok.hd hc) i1 a D.l1i1 its.toArray) (Draws.tuple (A := X.A.in1) (I.ok.hd hc) i2 b D.l2i2 its2.toArray) hz hTI hTO ⟨h1, p.isList⟩ ⟨h2, hTup⟩ (by rw [m1]; exact b1) (by rw [m2]; exact b2) (by rw [m1, m2]; exact b3) fun h' tk hk => ⟨rfl, I.turnedL (t' := tk) (ch := [z, TI, TO, i1, i2]) (fun c o hb q =>
      hk c o (fun q' => hb (by simp [q'])) (fun q' => hb (by simp [q'])) (fun q' => hb (by simp [q'])) (fun q' => hb (by simp [q'])) q) hf⟩
  self := fun A i s Q E st h => wpAny_pyIter_zip st.1 h
def iZip3 (K : PySem.W.Frag) (ta : TA) : TI := fun σ H R => ta σ H fun vs H1 => ∃ a b xs ys, vs = [.ref a, .ref b] ∧ ((SqL K H1 a xs ∧ SqL K H1 b ys ∧ R (Itz K a b) H1) ∨ (SqT K H1 a xs ∧ SqT K H1 b ys ∧ R (RZ.ItzT K a b) H1) ∨ (SqT K H1 a xs ∧ SqL K H1 b ys ∧ R (ItzM K a b) H1) ∨ (SqL K H1 a xs ∧ SqT K H1 b ys ∧ R (ItzN K a b) H1))
theorem pi_zip3 {X : L2.Cx} {e e2 : Expr} {ta : TA} {p pos tpos : Pos} {elts : List Expr} {kk : Nat} (hg : Gl X "zip") (hm : X.mg "zip" = none) (ha : PA X [e, e2] ta)
    (hs : starEach [e, e2] X.env = (false, eval e X.env) :: starEach [e2] X.env := by rfl) (hpl : (backTo pos (starEach [e2] X.env)).any (·.1) = false := by rfl) :
    PI X (.Tuple elts kk tpos) (.Call (.Name "zip" p) [e, e2] [] pos) (iZip3 X.K ta) := by
  refine ⟨fun pins s σ H R I h => ?_⟩
  refine Call_ (ld_blt I hg hm PyProof.Rows.boot_zip (PyProof.Rows.callWith_type1 (thn (ha.run pos pins s σ H _ I h) fun us s1 ⟨vs, H1, I1, r1, q1⟩ => ?_) hs hpl))
  obtain ⟨a, b, xs, ys, ex, q1⟩ := q1
  subst ex
  cases r1 with
  | cons r rr =>
    cases rr with
    | cons r' rr =>
      cases rr
      cases r
      cases r'
      have big : ∀ c, c ∈ [s1.heap.objs.size + 4, s1.heap.objs.size + 2, s1.heap.objs.size + 3, s1.heap.objs.size, s1.heap.objs.size + 1] → FpOk X pins H1 c := fun c hcm => by
        have hle : s1.heap.objs.size ≤ c := by
          simp only [List.mem_cons, List.not_mem_nil, or_false] at hcm
          rcases hcm with rfl | rfl | rfl | rfl | rfl
          · exact Nat.le_add_right _ _
          · exact Nat.le_add_right _ _
          · exact Nat.le_add_right _ _
          · exact Nat.le_refl _
          · exact Nat.le_add_right _ _
        exact I1.fpOk hle (I1.hok.fresh hle)
      rcases q1 with ⟨hqx, hqy, q⟩ | ⟨hqx, hqy, q⟩ | ⟨hqx, hqy, q⟩ | ⟨hqx, hqy, q⟩
      · obtain ⟨its, rv, p1, _⟩ := I1.list hqx
        obtain ⟨its2, rv2, p2, _⟩ := I1.list hqy
        refine call_zip_2 p1.isList p2.isList fun h' hz hTI hTO h1 h2 hsz hk => wpAny_pyIter_zip hz ?_
        have I2 : Inv X pins σ H1 { s1 with heap := h' } := I1.kept (t' := s1.toks) hk
        exact ⟨s1.heap.objs.size + 4, [s1.heap.objs.size + 4, s1.heap.objs.size + 2, s1.heap.objs.size + 3, s1.heap.objs.size, s1.heap.objs.size + 1], _, _, H1, rfl, I2, turn_zip (PySem.W.ktu_apart s1.heap.objs.size a b p1.lt p2.lt), ⟨hz, hTI, ⟨_, _, hTO⟩, h1, h2⟩, big, q⟩
      · obtain ⟨its, rv, p1, _⟩ := I1.tuple hqx
        obtain ⟨its2, rv2, p2, _⟩ := I1.tuple hqy
        obtain ⟨o1, ho1, _⟩ := id p1
        obtain ⟨o2, ho2, _⟩ := id p2
        refine RZ.call_zipT (show s1.heap.IsTuple a its.toArray from p1) (show s1.heap.IsTuple b its2.toArray from p2) fun h' hz hTI hTO h1 h2 hsz hk => wpAny_pyIter_zip hz ?_
        have I2 : Inv X pins σ H1 { s1 with heap := h' } := I1.kept (t' := s1.toks) hk
        exact ⟨s1.heap.objs.size + 4, [s1.heap.objs.size + 4, s1.heap.objs.size + 2, s1.heap.objs.size + 3, s1.heap.objs.size, s1.heap.objs.size + 1], _, _, H1, rfl, I2, RZ.turn_zipT (PySem.W.ktu_apart s1.heap.objs.size a b (Heap.lt_size ho1) (Heap.lt_size ho2)), ⟨hz, hTI, ⟨_, _, hTO⟩, h1, h2⟩, big, q⟩
      · obtain ⟨its, rv, p1, _⟩ := I1.tuple hqx
        obtain ⟨its2, rv2, p2, _⟩ := I1.list hqy
        obtain ⟨o1, ho1, _⟩ := id p1
        refine zm_call (show s1.heap.IsTuple a its.toArray from p1) p2.isList fun h' hz hTI hTO h1 h2 hsz hk => wpAny_pyIter_zip hz ?_
        have I2 : Inv X pins σ H1 { s1 with heap := h' } := I1.kept (t' := s1.toks) hk
        exact ⟨s1.heap.objs.size + 4, [s1.heap.objs.size + 4, s1.heap.objs.size + 2, s1.heap.objs.size + 3, s1.heap.objs.size, s1.heap.objs.size + 1], _, _, H1, rfl, I2, turn_zipM (PySem.W.ktu_apart s1.heap.objs.size a b (Heap.lt_size ho1) p2.lt), ⟨hz, hTI, ⟨_, _, hTO⟩, h1, h2⟩, big, q⟩
      · obtain ⟨its, rv, p1, _⟩ := I1.list hqx
        obtain ⟨its2, rv2, p2, _⟩ := I1.tuple hqy
        obtain ⟨o2, ho2, _⟩ := id p2
        refine zn_call p1.isList (show s1.heap.IsTuple b its2.toArray from p2) fun h' hz hTI hTO h1 h2 hsz hk => wpAny_pyIter_zip hz ?_
        have I2 : Inv X pins σ H1 { s1 with heap := h' } := I1.kept (t' := s1.toks) hk
        exact ⟨s1.heap.objs.size + 4, [s1.heap.objs.size + 4, s1.heap.objs.size + 2, s1.heap.objs.size + 3, s1.heap.objs.size, s1.heap.objs.size + 1], _, _, H1, rfl, I2, turn_zipN (PySem.W.ktu_apart s1.heap.objs.size a b p1.lt (Heap.lt_size ho2)), ⟨hz, hTI, ⟨_, _, hTO⟩, h1, h2⟩, big, q⟩
/-! ### t[::-1] -/
section
variable {prog : Program} {w : World} {A : Around} {E : Value → Shared → Prop} {s : Shared}
theorem rev_adj (n : Nat) : Builtin.Slice.sliceAdjust none none (-1) (n : Int) = ((n : Int) - 1, -1) := by
  unfold Builtin.Slice.sliceAdjust
  simp
theorem rev_pl (n : Nat) : Builtin.Slice.slicePlaces ((n : Int) - 1) (-1) (-1) = n := by
  unfold Builtin.Slice.slicePlaces
  rw [if_neg (by decide)]
  have e : (-(-1) : Int) = 1 := rfl
  rw [e, Int.ediv_one]
  split <;> omega
theorem rev_pick (xs : Array Value) : ((List.range xs.size).filterMap fun (m : Nat) => xs[((xs.size : Int) - 1 + (m : Int) * (-1)).toNat]?).toArray = xs.toList.reverse.toArray := by
  congr 1
  have go : ∀ l : List Nat, (∀ m ∈ l, m < xs.size) → (l.filterMap fun (m : Nat) => xs[((xs.size : Int) - 1 + (m : Int) * (-1)).toNat]?) = l.map fun m => xs.toList.reverse.getD m .none := by
    intro l
    induction l with
    | nil => intro _; rfl
    | cons m l ih =>
      intro hl
      have hm := hl m List.mem_cons_self
      have e : ((xs.size : Int) - 1 + (m : Int) * (-1)).toNat = xs.size - 1 - m := by omega
      have hk : xs.size - 1 - m < xs.size := by omega
      have hx : xs[((xs.size : Int) - 1 + (m : Int) * (-1)).toNat]? = some (xs.toList.reverse.getD m .none) := by
        rw [e, List.getD_eq_getElem?_getD, List.getElem?_reverse (by simpa using hm), Array.length_toList, Array.getElem?_eq_getElem hk, List.getElem?_eq_getElem (by simpa using hk)]
        simp
      rw [List.filterMap_cons, hx, ih fun m h => hl m (List.mem_cons_of_mem _ h), List.map_cons]
  rw [go _ fun m h => List.mem_range.mp h]
  refine List.ext_getElem? fun i => ?_
  rw [List.getElem?_map]
  by_cases h : i < xs.size
  · rw [List.getElem?_range h]
    rw [Option.map_some, List.getD_eq_getElem?_getD]
    have : i < xs.toList.reverse.length := by simpa using h
    rw [List.getElem?_eq_getElem this]
    rfl
  · rw [List.getElem?_eq_none (by simpa using h), List.getElem?_eq_none (by simpa using h)]
    rfl
theorem rev_tuple {t sl : Addr} {items : Array Value} {vs : Value} {Q : Value → Shared → Prop} (ht : IsTup s.heap t items) (hs : s.heap.IsSliceOf sl .none .none vs) (ps : IsPart vs (some (-1)))
    (h : Q (.ref s.heap.objs.size) { s with heap := s.heap.push { cls := .type "tuple", data := .seq items.toList.reverse.toArray } })
    (hsz : items.size ≤ sizeLine) : wpAny (model prog w) A (getItem (.ref t) (.ref sl)) Q E s := by
  have htake : sizeOk (.seq items.toList.reverse.toArray) := by
    show items.toList.reverse.toArray.size ≤ sizeLine
    simpa using hsz
  obtain ⟨os, hos, hcs, hds⟩ := id hs
  have hTs : s.TypeIs (.ref sl) "slice" := ⟨os, hos, hcs⟩
  unfold getItem
  try with_reducible refine wpAny_holding ?_
  first | refine wpAny_bind (wpAny_pure ?_) | skip
  refine wpAny_bind (wpAny_sequenceKey ht.typeIs (by decide) ?_)
  refine wpAny_bind (wpAny_callSpecial?_slot (name := Str.ofString "__getitem__") ht.typeIs PyProof.Rows.slot_tuple_getitem
    (wpAny_call_entry PyProof.Rows.slot_tuple_getitem ht.typeIs entry_tuple_getitem ?_ (args_tuple_getitem _ _)))
  show wpAny _ _ (Builtin.Tuple.tupleItemsOf (.ref t) >>= _) _ _ s
  refine wpAny_bind (tupleItemsOf_ ht ?_)
  refine wpAny_bind (wpAny_typeOf hTs ?_)
  rw [if_pos (by decide)]
  refine wpAny_bind ?_
  unfold Builtin.Slice.sliceApplied Builtin.Slice.sliceFields
  refine wpAny_bind (wpAny_bind (wpAny_field hos hds (x := .none) rfl (wpAny_bind (wpAny_field hos hds (x := .none) rfl (wpAny_bind (wpAny_field hos hds (x := vs) rfl (wpAny_pure ?_)))))))
  refine wpAny_bind (HT.slicePart_ ps ?_)
  show wpAny _ _ (if ((-1 : Int) == 0) = true then _ else _) _ _ s
  rw [if_neg (by decide)]
  refine wpAny_bind (HT.slicePart_ .none (wpAny_bind (HT.slicePart_ .none (wpAny_bind (wpAny_pure ?_)))))
  show wpAny _ _ (match Builtin.Slice.sliceAdjust none none (-1) (items.size : Int) with | (lo, hi) => pure (lo, (-1 : Int), Builtin.Slice.slicePlaces lo hi (-1))) _ _ s
  rw [rev_adj]
  show wpAny _ _ (pure ((items.size : Int) - 1, (-1 : Int), Builtin.Slice.slicePlaces ((items.size : Int) - 1) (-1) (-1))) _ _ s
  rw [rev_pl]
  refine wpAny_pure ?_
  show wpAny _ _ (if ((((items.size : Int) - 1) == 0 && (-1 : Int) == 1 && items.size == items.size)) = true then _ else _) _ _ s
  rw [if_neg (by simp), rev_pick]
  first
    | exact wpAny_bind (m := Builtin.Tuple.tupleExact _) (wpAny_newObj_type (wpAny_pure ⟨_, rfl, wpAny_pure h⟩) htake)
    | exact wpAny_bind (m := Builtin.Tuple.tupleExact _) (wpAny_newObj_type (wpAny_bind (wpAny_pure (wpAny_pure ⟨_, rfl, wpAny_pure h⟩))) htake)
    | exact wpAny_bind (wpAny_bind (m := Builtin.Tuple.tupleExact _) (wpAny_newObj_type (wpAny_pure (wpAny_pure ⟨_, rfl, wpAny_pure h⟩)) htake))
    | exact wpAny_bind (wpAny_bind (m := Builtin.Tuple.tupleExact _) (wpAny_newObj_type (wpAny_pure ⟨_, rfl, wpAny_pure h⟩) htake))
end
def tRevA (K : PySem.W.Frag) (te : TE) : TE := fun σ H Q => te σ H fun x H1 => ∃ a xs, x = .ref a ∧ ((SqL K H1 a xs ∧ ∀ p, H1 p = none → Q (.ref p) (upd H1 p (.lst xs.reverse))) ∨ (SqT K H1 a xs ∧ newT xs.reverse H1 Q))
theorem pe_revA {X : L2.Cx} {e : Expr} {te : TE} {k : Nat} {p1 p2 p3 pos : Pos} (he : PE X e te) : PE X (.Subscript e (.Slice none none (some (.UnaryOp .USub (.Constant (.int 1) k p1) p2)) p3) pos) (tRevA X.K te) := by
  refine ⟨fun pins s σ H Q I h => ?_⟩
  refine Subscript_ (thn (he.run pins s σ H _ I h) fun v s1 ⟨x, H1, I1, r1, q1⟩ => ?_)
  obtain ⟨a, xs, ex, q⟩ := q1
  subst ex
  cases r1
  have hst : PO X (some (.UnaryOp .USub (.Constant (.int 1) k p1) p2)) (tPart (tUn (rU fun i => .int (-i)) (tC (.int 1)))) := po_some (pe_un un_neg pe_int)
  refine wpAny_Slice (thn (po_none.run pins s1 σ H1 (fun o H2 => o = none ∧ H2 = H1) I1 ⟨rfl, rfl⟩) fun vl s2 ⟨l, H2, I2, pl, el, e2⟩ => ?_)
  subst el e2
  refine thn (po_none.run pins s2 σ H2 (fun o H3 => o = none ∧ H3 = H2) I2 ⟨rfl, rfl⟩) fun vu s3 ⟨u, H3, I3, pu, eu, e3⟩ => ?_
  subst eu e3
  refine thn (hst.run pins s3 σ H3 (fun o H4 => o = some (-1) ∧ H4 = H3) I3 ⟨1, rfl, -1, rfl, rfl, rfl⟩) fun vs s4 ⟨o, H4, I4, ps, eo, e4⟩ => ?_
  subst eo e4
  have I5 : Inv X pins σ H4 { s4 with heap := s4.heap.push { cls := .type "slice", data := .fields #[vl, vu, vs] } } := I4.kept (t' := s4.toks) fun b ob q => Heap.get?_push_of_some _ q
  rcases q with ⟨hx, q⟩ | ⟨hx, q⟩
  · obtain ⟨its, r, ht, hz⟩ := I5.list hx
    have hlen := r.length
    show wpAny (model X.prog X.w) X.A (subscriptTail e (.Slice none none (some (.UnaryOp .USub (.Constant (.int 1) k p1) p2)) p3) (.ref a) (.ref s4.heap.objs.size)) (EP X pins σ Q) X.xe { s4 with heap := s4.heap.push { cls := .type "slice", data := .fields #[vl, vu, vs] } }
    refine tail_any (ops := [.ref a, .ref s4.heap.objs.size]) ht.isList.typeIs (PySem.slot_list_getitem.lookup) ?_ (by with_unfolding_all rfl)
    refine wpAny_getItem_list_slice ht.isList (Heap.IsSliceOf.new _ vl vu vs) pl pu ps (by decide) ?_ (by rw [List.size_toArray]; omega)
    rw [PySem.W.krv_pick]
    refine ⟨.ref _, _, I5.laid (t' := s4.toks) (o := .lst xs.reverse) (fun b ob q => Heap.get?_push_of_some _ q) (Nat.le_refl _) ?_, rfl, q _ (I5.hok.fresh (Nat.le_refl _))⟩
    exact ⟨by rw [List.length_reverse]; exact hz, _, 0, r.reverse, Heap.get?_push_size _ rfl⟩
  · obtain ⟨its, r, ht, hz⟩ := I5.tuple hx
    have hlen := r.length
    cases pl
    cases pu
    show wpAny (model X.prog X.w) X.A (subscriptTail e (.Slice none none (some (.UnaryOp .USub (.Constant (.int 1) k p1) p2)) p3) (.ref a) (.ref s4.heap.objs.size)) (EP X pins σ Q) X.xe { s4 with heap := s4.heap.push { cls := .type "slice", data := .fields #[.none, .none, vs] } }
    refine tail_any (ops := [.ref a, .ref s4.heap.objs.size]) ht.typeIs (PyProof.Rows.slot_tuple_getitem.lookup) ?_ (by with_unfolding_all rfl)
    refine rev_tuple ht (Heap.IsSliceOf.new _ .none .none vs) ps ?_ (by rw [List.size_toArray]; omega)
    exact ⟨.ref _, _, tup_laid I5 r.reverse (by rw [List.length_reverse]; exact hz) s4.toks, rfl, q _ _ (I5.hok.fresh (Nat.le_refl _)) ⟨rfl, rfl⟩⟩
end Lr

set_option Elab.async false
set_option linter.all false
set_option maxRecDepth 100000
set_option maxHeartbeats 4000000
/-! max(a list of ints, default=an int) -/
namespace PySem
open Sem (wp)
section
variable {prog : Program} {w : World} {A : Around} {R : Result → Shared → Prop} {I : Addr} {fp wr : List Addr} {n : Nat} {P : Nat → Value → Prop} {St : Nat → Heap → Prop} {kw : List (Str × Value)}
theorem mxd_loop (W : Walks prog w A.in1 I fp wr n P St) (bt : Nat → Nat → Bool) (hcmp : CmpOf prog w A.in1 .Gt P bt) (S : Addr) (hSf : S ∉ fp) :
    ∀ (k j : Nat) (s : Shared) (vb : Value) (c : Nat), n - (j + 1) = k → j + 1 ≤ n → St (j + 1) s.heap → P (argBest bt j) vb →
    s.heap.get? S = some { cls := .type "list", dict := none, data := .seq #[vb, vb] c, slots := #[] } →
    (∀ v h' tk, P (argBest bt (n - 1)) v → (∀ b o, b ∉ wr → b ≠ S → s.heap.get? b = some o → h'.get? b = some o) → R (.ok (.ret v)) { s with heap := h', toks := tk }) →
    codeAny (model prog w) A (.builtin "max.loop" ⟨[.ref I, .none, .ref S], kw⟩) R s := by
  have hSw : S ∉ wr := fun h => hSf (W.sub _ h)
  have hname : (toString "max" ++ toString ".loop" : String) = "max.loop" := by decide
  intro k
  induction k with
  | zero =>
    intro j s vb c hk hj hst hPb hS hR
    have hin : j + 1 = n := by omega
    refine codeAny_builtin F.entry_max_loop ?_
    rw [Around.under_plainId F.plain_max_loop _]
    show wpAny _ A.in1 (seqItems? (.ref S) >>= _) _ _ s
    refine wpAny_bind (wpAny_seqItems hS rfl ?_)
    show wpAny _ A.in1 (tryCatch (pyNext (.ref I)) _ >>= _) _ _ s
    refine wpAny_bind (wpAny_tryCatch (W.done s _ _ (hin ▸ hst) fun h' tk hk' => ?_))
    have hS' := hk' S _ hSw hS
    show wpAny _ A.in1 (updateSeq S (fun _ => #[]) >>= _) _ _ _
    refine wpAny_bind ?_
    refine wpAny_updateSeq hS' rfl (wpAny_bind (wpAny_letGo (wpAny_pure ?_)))
    exact hR vb _ tk (by rw [← hin]; exact hPb) fun b o hbw hbS e => (Heap.get?_update_other _ _ (Ne.symm hbS)).trans (hk' b o hbw e)
  | succ k ih =>
    intro j s vb c hk hj hst hPb hS hR
    have hlt : j + 1 < n := by omega
    refine codeAny_builtin F.entry_max_loop ?_
    rw [Around.under_plainId F.plain_max_loop _]
    show wpAny _ A.in1 (seqItems? (.ref S) >>= _) _ _ s
    refine wpAny_bind (wpAny_seqItems hS rfl ?_)
    show wpAny _ A.in1 (tryCatch (pyNext (.ref I)) _ >>= _) _ _ s
    refine wpAny_bind (wpAny_tryCatch (W.item (j + 1) s _ _ hlt hst fun v h' tk hP hst' hk' => ?_))
    have hS' := hk' S _ hSw hS
    show wpAny _ A.in1 (tryCatch (holding [v, v] (richCompare .Gt v vb >>= _)) _ >>= _) _ _ _
    refine wpAny_bind (wpAny_tryCatch (wpAny_holding (wpAny_bind (hcmp (j + 1) (argBest bt j) v vb _ _ _ hP hPb ?_))))
    refine wpAny_bind (wpAny_holding (wpAny_truthy_bool ?_))
    refine wpAny_bind (wpAny_letGo (wpAny_pure ?_))
    cases hb : bt (j + 1) (argBest bt j) with
    | true =>
      simp only [if_true]
      refine wpAny_bind ?_
      refine wpAny_updateSeq hS' rfl (wpAny_bind (wpAny_letGo ?_))
      rw [hname]
      refine wpAny_pure ⟨plainId_quiet F.plain_max_loop _, ih (j + 1) _ v _ (by omega) hlt (W.frame _ _ _ hst' fun b hbf o e => ?_) (by simp only [argBest, hb, if_true]; exact hP) (Heap.get?_update_self _ hS' rfl)
        fun v' h'' tk'' hP' hk'' => ?_⟩
      · exact (Heap.get?_update_other _ _ (fun h : S = b => hSf (by rw [h]; exact hbf))).trans e
      · exact hR v' h'' tk'' hP' fun b o hbw hbS e => hk'' b o hbw hbS ((Heap.get?_update_other _ _ (Ne.symm hbS)).trans (hk' b o hbw e))
    | false =>
      simp only [Bool.false_eq_true, if_false]
      refine wpAny_bind (wpAny_letGo ?_)
      rw [hname]
      refine wpAny_pure ⟨plainId_quiet F.plain_max_loop _, ih (j + 1) _ vb c (by omega) hlt hst' (by simp only [argBest, hb, Bool.false_eq_true, if_false]; exact hPb) hS' fun v' h'' tk'' hP' hk'' => ?_⟩
      exact hR v' h'' tk'' hP' fun b o hbw hbS e => hk'' b o hbw hbS (hk' b o hbw e)
theorem mxd_first (W : Walks prog w A.in1 I fp wr n P St) (bt : Nat → Nat → Bool) (hcmp : CmpOf prog w A.in1 .Gt P bt) (S : Addr) (hSf : S ∉ fp) {s : Shared} {c : Nat} {x : Str} {d : Value} (hkw : kw = [(x, d)]) (hst : St 0 s.heap)
    (hS : s.heap.get? S = some { cls := .type "list", dict := none, data := .seq #[] c, slots := #[] })
    (h0 : n = 0 → ∀ h' tk, (∀ b o, b ∉ wr → b ≠ S → s.heap.get? b = some o → h'.get? b = some o) → R (.ok (.ret d)) { s with heap := h', toks := tk })
    (hR : 0 < n → ∀ v h' tk, P (argBest bt (n - 1)) v → (∀ b o, b ∉ wr → b ≠ S → s.heap.get? b = some o → h'.get? b = some o) → R (.ok (.ret v)) { s with heap := h', toks := tk }) :
    codeAny (model prog w) A (.builtin "max.loop" ⟨[.ref I, .none, .ref S], kw⟩) R s := by
  have hSw : S ∉ wr := fun h => hSf (W.sub _ h)
  have hname : (toString "max" ++ toString ".loop" : String) = "max.loop" := by decide
  refine codeAny_builtin F.entry_max_loop ?_
  rw [Around.under_plainId F.plain_max_loop _]
  show wpAny _ A.in1 (seqItems? (.ref S) >>= _) _ _ s
  refine wpAny_bind (wpAny_seqItems hS rfl ?_)
  show wpAny _ A.in1 (tryCatch (pyNext (.ref I)) _ >>= _) _ _ s
  by_cases hn : 0 < n
  · refine wpAny_bind (wpAny_tryCatch (W.item 0 s _ _ hn hst fun v h' tk hP hst' hk' => ?_))
    have hS' := hk' S _ hSw hS
    show wpAny _ A.in1 (updateSeq S (fun _ => #[v, v]) >>= _) _ _ _
    refine wpAny_bind ?_
    refine wpAny_updateSeq hS' rfl ?_
    rw [hname]
    refine wpAny_pure ⟨plainId_quiet F.plain_max_loop _, mxd_loop W bt hcmp S hSf _ 0 _ v _ rfl hn (W.frame _ _ _ hst' fun b hbf o e => ?_) hP (Heap.get?_update_self _ hS' rfl) fun v' h'' tk'' hP' hk'' => ?_⟩
    · exact (Heap.get?_update_other _ _ (fun h : S = b => hSf (by rw [h]; exact hbf))).trans e
    · exact hR hn v' h'' tk'' hP' fun b o hbw hbS e => hk'' b o hbw hbS ((Heap.get?_update_other _ _ (Ne.symm hbS)).trans (hk' b o hbw e))
  · have hz : n = 0 := by omega
    refine wpAny_bind (wpAny_tryCatch (W.done s _ _ (hz ▸ hst) fun h' tk hk' => ?_))
    subst hkw
    refine wpAny_bind (wpAny_rule ?_)
    exact wpAny_pure (h0 hz h' tk fun b o hbw _ e => hk' b o hbw e)
end
theorem mxd_args (a v : Value) : argsOk "max" ⟨[a], [(Str.ofString "default", v)]⟩ := by unfold argsOk; kernel_rfl
section
variable {prog : Program} {w : World} {A : Around} {E : Value → Shared → Prop} {s : Shared} {l : Addr} {xs : Array (Int × Tok)}
theorem mxd_call {Q : Value → Shared → Prop} {d : Value} (hh : A.handled = none) (hl : s.heap.IsList l (intItems xs))
    (h0 : xs.size = 0 → ∀ h' tk, (∀ b o, s.heap.get? b = some o → h'.get? b = some o) → Q d { s with heap := h', toks := tk })
    (h : 0 < xs.size → ∀ v h' tk, (intItems xs)[argBest (fun i j => decide (numAt xs i > numAt xs j)) (xs.size - 1)]? = some v → (∀ b o, s.heap.get? b = some o → h'.get? b = some o) → Q v { s with heap := h', toks := tk }) :
    wpAny (model prog w) A (call (.builtin "max") [.ref l] [(Str.ofString "default", d)]) Q E s := by
  have hname : (toString "max" ++ toString ".loop" : String) = "max.loop" := by decide
  refine PyProof.Rows.kmk_tree F.kind_max F.plain_max F.entry_max (mxd_args _ _) ?_
  show wpAny _ A.in1 (Builtin.Builtins.bindParams "max" ["key", "default"] 0 ⟨[], [(Str.ofString "default", d)]⟩ >>= _) _ _ s
  refine wpAny_bind (wpAny_of_eq (show Builtin.Builtins.bindParams "max" ["key", "default"] 0 ⟨[], [(Str.ofString "default", d)]⟩ = pure [none, some d] from rfl) ?_)
  refine wpAny_bind (wpAny_pure ?_)
  refine wpAny_bind (iter_intList hl fun s2 e st hfp hlI => ?_)
  subst e
  refine wpAny_bind (wpAny_newObj_type ?_)
  have hSf : (s.heap.push { cls := .type "list_iterator", data := .fields #[.ref l, .int 0 0] }).objs.size ∉ [s.heap.objs.size, l] := fun hm => Nat.lt_irrefl _ (hfp _ hm)
  rw [hname]
  have W := Walks.list (prog := prog) (w := w) (A := A.in1) hh s.heap.objs.size l hlI (intItems xs)
  refine wpAny_pure ⟨plainId_quiet F.plain_max_loop _, mxd_first W _ (CmpOf.ints_gt (numAt xs) (fun _ _ => intItems_at)) _ hSf rfl (W.frame _ _ _ st fun b _ o e => Heap.get?_push_of_some _ e) (Heap.get?_push_size _ rfl) (fun hz h' tk hk => ?_) fun hn v h' tk hP hk => ?_⟩
  · exact h0 (by simpa [intItems] using hz) h' tk (old_kept fun b o hbw e => hk b o hbw (Nat.ne_of_lt (Heap.lt_size e)) (Heap.get?_push_of_some _ e))
  · exact h (by simpa [intItems] using hn) v h' tk (by simpa [intItems] using hP) (old_kept fun b o hbw e => hk b o hbw (Nat.ne_of_lt (Heap.lt_size e)) (Heap.get?_push_of_some _ e))
end
end PySem
namespace PySem
section
variable {prog : Program} {w : World} {A : Around} {E : Value → Shared → Prop} {s : Shared} {l : Addr} {its : List Value} {ns : List Int} {Q : Value → Shared → Prop}
open PyProof.Rows HT L2 in
theorem mxd_raw {d : Value} (hh : A.handled = none) (hl : s.heap.IsList l its.toArray) (hi : IntsAre its ns)
    (h0 : ns = [] → ∀ h' tk, (∀ b o, s.heap.get? b = some o → h'.get? b = some o) → Q d { s with heap := h', toks := tk })
    (h : ∀ h' tk M t', (∀ b o, s.heap.get? b = some o → h'.get? b = some o) → M ∈ ns → (∀ a, a ∈ ns → a ≤ M) → Q (.int M t') { s with heap := h', toks := tk }) : wpAny (model prog w) A (call (.builtin "max") [.ref l] [(Str.ofString "default", d)]) Q E s := by
  obtain ⟨xs, e⟩ := hi.allInts.items
  have hn : numsOf (intItems xs).toList = ns := by rw [← e]; exact hi.numsOf
  rw [nums_intItems] at hn
  subst hn
  rw [e] at hl
  refine mxd_call hh hl (fun hz => h0 ?_) fun hsz v h' tk hv hk => ?_
  · have : xs.toList = [] := by simpa using Array.eq_empty_of_size_eq_zero hz
    rw [this]; rfl
  · obtain ⟨t, rfl⟩ := intItems_at hv
    obtain ⟨h1, h2⟩ := argBest_gt (numAt xs) (xs.size - 1)
    refine h h' tk _ t hk ?_ fun a ha => ?_
    · rw [numAt_eq]; exact PySem.getD_mem (by rw [List.length_map, Array.length_toList]; omega)
    · obtain ⟨j, hj, rfl⟩ := mem_getD ha
      rw [List.length_map, Array.length_toList] at hj
      rw [← numAt_eq]; exact h2 j (by omega)
end
end PySem
namespace Lr
open PySem PySem.Spec PyProof.Rows L2
def rMaxDf (K : PySem.W.Frag) : List V → List V → Hp → VK → Prop := fun vs zs H Q => ∃ (a : Addr) (ns : List Int) (d : Int), vs = [V.ref a] ∧ zs = [V.int d] ∧ SqL K H a (ns.map V.int) ∧ (ns = [] → Q (.int d) H) ∧ ∀ m, m ∈ ns → (∀ y, y ∈ ns → y ≤ m) → Q (.int m) H
theorem cr_maxDf {X : L2.Cx} (hc : X.calm = true) : CallRK X (.builtin "max") [Str.ofString "default"] (rMaxDf X.K) := by
  intro pins s σ H vs zs us ws Q I r r2 h
  obtain ⟨a, ns, d, rfl, rfl, hs, q0, q⟩ := h
  obtain ⟨its, rv, hl, _⟩ := I.list hs
  rw [Vals.ref1 r]
  obtain ⟨u, rfl, t, rfl⟩ := vals1 r2
  exact mxd_raw (I.ok.hd hc) hl.isList rv.ints (fun z h' tk hk => ⟨.int d, H, I.kept hk, ⟨_, rfl⟩, q0 z⟩) fun h' tk m t' hk h1 h2 => ⟨.int _, H, I.kept hk, ⟨_, rfl⟩, q m h1 h2⟩
end Lr

set_option Elab.async false
set_option linter.all false
set_option maxRecDepth 100000
set_option maxHeartbeats 4000000
/-! part 7: construct by construct -/
namespace Lr
open PySem PySem.Spec PyProof.Rows L2
variable {P : Prog} {cls : String → Addr} {k : Nat} {X : L2.Cx}
abbrev LE (X : L2.Cx) (cls : String → Addr) (m : Env → Sto → QE → Prop) : TE := liftE ⟨X.K, cls⟩ X.N.length m
abbrev LT (X : L2.Cx) (cls : String → Addr) (m : Env → Sto → (Bool → Sto → Prop) → Prop) : TT := liftT ⟨X.K, cls⟩ X.N.length m
abbrev LA (X : L2.Cx) (cls : String → Addr) (L : Nat) (m : Env → Sto → (List D → Sto → Prop) → Prop) : TA := liftA ⟨X.K, cls⟩ X.N.length L m
abbrev C0 (P : Prog) (k : Nat) : Ctx := ctx P k
section
variable {e a b c : Expr} {pos : Pos} {ma mb mc : Env → Sto → QE → Prop}
theorem sE_var {i : Nat} {x : Str} (h1 : X.N[i]? = some x) (h2 : Vis X.env.scope x) (h3 : okName x = true) : PE X (.Name x pos) (LE X cls fun σ S Q => slot σ i fun d => Q d S) := by
  obtain ⟨n1, n2, n3⟩ := okName_of h3
  refine (pe_var (i := i) h1 h2 n1 n2).le fun τ H Q ⟨σ, S, Q0, rE, rS, q, c⟩ => ?_
  replace q : slot σ i fun d => Q0 d S := q
  unfold slot at q
  split at q
  · rename_i d h
    obtain ⟨v, h4, h5⟩ := rE.2 i d h
    exact ⟨v, h4, cont_same c rS q h5⟩
  · exact q.elim
theorem sE_const {d : D} {v : V} (he : PE X e (tC v)) (r : ∀ H, RepV ⟨X.K, cls⟩ H d v) : PE X e (LE X cls fun _ S Q => Q d S) :=
  he.le fun τ H Q ⟨σ, S, Q0, rE, rS, q, c⟩ => cont_same c rS q (r H)
theorem sE_glb (ok : Ok P cls k X) {n : String} (h1 : isGl X.env.scope (Str.ofString n) = true) (h2 : okName (Str.ofString n) = true) : PE X (.Name (Str.ofString n) pos) (LE X cls fun _ S Q => match P.gl n with | some d => Q d S | none => False) := by
  obtain ⟨n1, n2, n3⟩ := okName_of h2
  cases e : P.gl n with
  | none => exact ⟨fun _ _ _ _ _ _ ⟨_, _, _, _, _, q, _⟩ => q.elim⟩
  | some d =>
    obtain ⟨v, u, hm, r, hr⟩ := ok.gl n d e
    rcases hm with hm | ⟨hm, hb⟩
    · exact sE_const (pe_glob (gl_of h1) hm r n1) hr
    · exact sE_const (pe_bltn (gl_of h1) hm hb r n3 n1) hr
theorem sE_bin {o : Op2} (ha : PE X a (LE X cls ma)) (hb : PE X b (LE X cls mb)) : PE X (.BinOp a (opOf o) b pos) (LE X cls fun σ S Q => ma σ S fun u S1 => mb σ S1 fun v S2 => binM o u v S2 Q) :=
  (pe_op (op_bin (G := ⟨X.K, cls⟩) o) ha hb).le fun _ _ _ q => lift_bin q
theorem sE_neg (ha : PE X a (LE X cls ma)) : PE X (.UnaryOp .USub a pos) (LE X cls fun σ S Q => ma σ S fun u S1 => match u with | .int i => Q (.int (-i)) S1 | _ => False) := by
  refine (pe_un un_neg ha).le fun τ H Q h => ?_
  obtain ⟨σ, S, Q0, rE, rS, h, c⟩ := h
  refine ⟨σ, S, _, rE, rS, h, fun u S1 x H1 q1 t1 rS1 rV1 => ?_⟩
  split at q1
  · cases rV1
    exact ⟨_, rfl, c _ _ _ _ q1 t1 rS1 (.int _)⟩
  · exact q1.elim
theorem sE_not (ha : PE X a (LE X cls ma)) : PE X (.UnaryOp .Not a pos) (LE X cls fun σ S Q => ma σ S fun u S1 => match u with | .bl b => Q (.bl (!b)) S1 | _ => False) := by
  refine (pe_not ha).le fun τ H Q h => ?_
  obtain ⟨σ, S, Q0, rE, rS, h, c⟩ := h
  refine ⟨σ, S, _, rE, rS, h, fun u S1 x H1 q1 t1 rS1 rV1 => ?_⟩
  split at q1
  · cases rV1
    exact ⟨_, rfl, c _ _ _ _ q1 t1 rS1 (.bl _)⟩
  · exact q1.elim
/-- two values in a row, then a comparison -/
theorem lift_cmp {G : GI} {n : Nat} {r : D → D → Sto → (Bool → Prop) → Prop} {τ : L2.St} {H : Hp} {Q : VK} {K : Bool → Sto → Prop} {σ : Env} {S : Sto} (rE : RepE G n H σ τ) (rS : RepS G S H)
    (h : ma σ S fun u S1 => mb σ S1 fun v S2 => r u v S2 fun c => K c S2) (c : ∀ b S' H', K b S' → TExt H H' → RepS G S' H' → Q (.bl b) H') : tOp (liftC G r) (liftE G n ma) (liftE G n mb) τ H Q := by
  refine ⟨σ, S, _, rE, rS, h, fun u S1 x H1 q1 t1 rS1 rV1 => ?_⟩
  refine ⟨σ, S1, _, rE.mono t1, rS1, q1, fun v S2 y H2 q2 t2 rS2 rV2 => ?_⟩
  exact ⟨u, v, S2, _, rV1.mono t2, rV2, rS2, q2, fun b q => c b S2 H2 q (t1.trans t2) rS2⟩
theorem sE_cmp (ok : Ok P cls k X) {o : Cmp} (hs : noSet b = true) (ha : PE X a (LE X cls ma)) (hb : PE X b (LE X cls mb)) : PE X (.Compare a [cmpOf o] [b] pos) (LE X cls fun σ S Q => ma σ S fun u S1 => mb σ S1 fun v S2 => cmpM o u v S2 fun c => Q (.bl c) S2) :=
  (pe_cmpR (op_cmp (G := ⟨X.K, cls⟩) o ok.hu2) ha hb (marks_of hs)).le fun τ H Q ⟨σ, S, Q0, rE, rS, h, c⟩ =>
    lift_cmp (K := fun b S => Q0 (.bl b) S) rE rS h fun b S' H' q t r => c _ _ _ _ q t r (.bl b)
theorem sT_cmp (ok : Ok P cls k X) {o : Cmp} (hs : noSet b = true) (ha : PE X a (LE X cls ma)) (hb : PE X b (LE X cls mb)) : PT X (.Compare a [cmpOf o] [b] pos) (LT X cls fun σ S Q => ma σ S fun u S1 => mb σ S1 fun v S2 => cmpM o u v S2 fun c => Q c S2) :=
  (pt_cmpR (op_cmp (G := ⟨X.K, cls⟩) o ok.hu2) ha hb (marks_of hs)).le fun τ H Q ⟨σ, S, Q0, rE, rS, h, c⟩ =>
    lift_cmp (K := fun b S => Q0 b S) rE rS h fun b S' H' q t r => ⟨b, rfl, c _ _ _ q t r⟩
theorem lift_chn {G : GI} {n : Nat} {r r' : D → D → Sto → (Bool → Prop) → Prop} {τ : L2.St} {H : Hp} {Q : VK} {K : Bool → Sto → Prop} {σ : Env} {S : Sto} (rE : RepE G n H σ τ) (rS : RepS G S H)
    (h : ma σ S fun u S1 => mb σ S1 fun v S2 => r u v S2 fun t => (t = true → mc σ S2 fun w S3 => r' v w S3 fun c => K c S3) ∧ (t = false → K false S2)) (c : ∀ b S' H', K b S' → TExt H H' → RepS G S' H' → Q (.bl b) H') :
    tChain (liftC G r) (liftC G r') (liftE G n ma) (liftE G n mb) (liftE G n mc) τ H Q := by
  refine ⟨σ, S, _, rE, rS, h, fun u S1 x H1 q1 t1 rS1 rV1 => ?_⟩
  refine ⟨σ, S1, _, rE.mono t1, rS1, q1, fun v S2 y H2 q2 t2 rS2 rV2 => ?_⟩
  refine ⟨u, v, S2, _, rV1.mono t2, rV2, rS2, q2, fun t q => ⟨t, rfl, ?_⟩⟩
  cases t with
  | false => exact c _ _ _ (q.2 rfl) (t1.trans t2) rS2
  | true =>
    refine ⟨σ, S2, _, (rE.mono t1).mono t2, rS2, q.1 rfl, fun w S3 z H3 q3 t3 rS3 rV3 => ?_⟩
    exact ⟨v, w, S3, _, rV2.mono t3, rV3, rS3, q3, fun b q => c b S3 H3 q ((t1.trans t2).trans t3) rS3⟩
theorem sE_chn (ok : Ok P cls k X) {o p : Cmp} (hs : noSet c = true) (ha : PE X a (LE X cls ma)) (hb : PE X b (LE X cls mb)) (hc : PE X c (LE X cls mc)) : PE X (.Compare a [cmpOf o, cmpOf p] [b, c] pos)
    (LE X cls fun σ S Q => ma σ S fun u S1 => mb σ S1 fun v S2 => cmpM o u v S2 fun t => (t = true → mc σ S2 fun w S3 => cmpM p v w S3 fun c => Q (.bl c) S3) ∧ (t = false → Q (.bl false) S2)) :=
  (pe_chain (op_cmp (G := ⟨X.K, cls⟩) o ok.hu2) (op_cmp (G := ⟨X.K, cls⟩) p ok.hu2) ha hb hc (marks2_of hs)).le fun τ H Q ⟨σ, S, Q0, rE, rS, h, c⟩ =>
    lift_chn (K := fun b S => Q0 (.bl b) S) rE rS h fun b S' H' q t r => c _ _ _ _ q t r (.bl b)
theorem sT_chn (ok : Ok P cls k X) {o p : Cmp} (hs : noSet c = true) (ha : PE X a (LE X cls ma)) (hb : PE X b (LE X cls mb)) (hc : PE X c (LE X cls mc)) : PT X (.Compare a [cmpOf o, cmpOf p] [b, c] pos)
    (LT X cls fun σ S Q => ma σ S fun u S1 => mb σ S1 fun v S2 => cmpM o u v S2 fun t => (t = true → mc σ S2 fun w S3 => cmpM p v w S3 fun c => Q c S3) ∧ (t = false → Q false S2)) :=
  (pt_chain (op_cmp (G := ⟨X.K, cls⟩) o ok.hu2) (op_cmp (G := ⟨X.K, cls⟩) p ok.hu2) ha hb hc (marks2_of hs)).le fun τ H Q ⟨σ, S, Q0, rE, rS, h, c⟩ =>
    lift_chn (K := fun b S => Q0 b S) rE rS h fun b S' H' q t r => ⟨b, rfl, c _ _ _ q t r⟩
theorem sT_tru {x : Expr} (hn : noTest x = true) (ha : PE X x (LE X cls ma)) : PT X x (LT X cls fun σ S Q => ma σ S fun d S1 => truM d S1 fun b => Q b S1) :=
  (pt_truth ha (isTrue_of hn)).le fun τ H Q ⟨σ, S, Q0, rE, rS, h, c⟩ => ⟨σ, S, _, rE, rS, h, fun d S1 x H1 q1 t1 rS1 rV1 => by
    obtain ⟨kk, h1, h2⟩ := truV_of rS1 rV1 q1
    exact ⟨kk, h1, c _ _ _ h2 t1 rS1⟩⟩
theorem sT_not {mt : Env → Sto → (Bool → Sto → Prop) → Prop} (ha : PT X a (LT X cls mt)) : PT X (.UnaryOp .Not a pos) (LT X cls fun σ S Q => mt σ S fun b S1 => Q (!b) S1) :=
  (pt_not ha).le fun τ H Q ⟨σ, S, Q0, rE, rS, h, c⟩ => ⟨σ, S, _, rE, rS, h, fun b S1 H1 q1 t1 rS1 => c _ _ _ q1 t1 rS1⟩
theorem sE_ite {mt : Env → Sto → (Bool → Sto → Prop) → Prop} (hc : PT X c (LT X cls mt)) (ha : PE X a (LE X cls ma)) (hb : PE X b (LE X cls mb)) : PE X (.IfExp c a b pos) (LE X cls fun σ S Q => mt σ S fun t S1 => (t = true → ma σ S1 Q) ∧ (t = false → mb σ S1 Q)) :=
  (pe_ifExp hc ha hb).le fun τ H Q ⟨σ, S, Q0, rE, rS, h, c⟩ => ⟨σ, S, _, rE, rS, h, fun b S1 H1 q1 t1 rS1 => by
    cases b with
    | true => exact ⟨σ, S1, Q0, rE.mono t1, rS1, q1.1 rfl, c.go t1⟩
    | false => exact ⟨σ, S1, Q0, rE.mono t1, rS1, q1.2 rfl, c.go t1⟩⟩
/-! ### and, or -/
theorem PW_le {e : Expr} {t t' : TT} (h : PW X e t) (l : ∀ σ H Q, t' σ H Q → t σ H Q) : PW X e t' := ⟨fun w pins s σ H Q I q => h.run w pins s σ H Q I (l σ H Q q)⟩
theorem sB_one {op : BoolOp} {kk : Bool} (ha : PE X a (LE X cls ma)) : PE X (.BoolOp op [a] pos) (LE X cls ma) := pe_one ha
theorem sB_cons {op : BoolOp} {kk : Bool} {rest : List Expr} (ho : (match op with | .And => kk | .Or => !kk) = true) (ha : PE X a (LE X cls ma)) (hb : PE X (.BoolOp op (b :: rest) pos) (LE X cls mb)) : PE X (.BoolOp op (a :: b :: rest) pos)
    (LE X cls fun σ S Q => ma σ S fun d S1 => match d with | .bl t => (t = kk → mb σ S1 Q) ∧ (t = !kk → Q (.bl (!kk)) S1) | d => truM d S1 fun t => (t = kk → mb σ S1 Q) ∧ (t = !kk → Q d S1)) := by
  have key : ∀ {σ : Env} {d : D} {S1 : Sto} {Q : QE}, (match d with | .bl t => (t = kk → mb σ S1 Q) ∧ (t = !kk → Q (.bl (!kk)) S1) | d => truM d S1 fun t => (t = kk → mb σ S1 Q) ∧ (t = !kk → Q d S1)) → truM d S1 fun t => (t = kk → mb σ S1 Q) ∧ (t = !kk → Q d S1) := by
    intro σ d S1 Q q
    cases d with
    | bl t => exact ⟨q.1, fun e => by subst e; exact q.2 rfl⟩
    | _ => exact q
  cases op with
  | And =>
    replace ho : kk = true := ho
    subst ho
    refine (pe_andT ha hb).le fun τ H Q ⟨σ, S, Q0, rE, rS, h, c⟩ => ⟨σ, S, _, rE, rS, h, fun d S1 x H1 q1 t1 rS1 rV1 => ?_⟩
    obtain ⟨k2, h1, h2⟩ := truV_of rS1 rV1 (key q1)
    refine ⟨k2, h1, ?_⟩
    split
    · rename_i z; exact ⟨σ, S1, Q0, rE.mono t1, rS1, h2.1 z, c.go t1⟩
    · rename_i z; exact c _ _ _ _ (h2.2 (by simpa using z)) t1 rS1 rV1
  | Or =>
    replace ho : (!kk) = true := ho
    have : kk = false := by cases kk <;> first | rfl | cases ho
    subst this
    refine (pe_orT ha hb).le fun τ H Q ⟨σ, S, Q0, rE, rS, h, c⟩ => ⟨σ, S, _, rE, rS, h, fun d S1 x H1 q1 t1 rS1 rV1 => ?_⟩
    obtain ⟨k2, h1, h2⟩ := truV_of rS1 rV1 (key q1)
    refine ⟨k2, h1, ?_⟩
    split
    · rename_i z; exact c _ _ _ _ (h2.2 z) t1 rS1 rV1
    · rename_i z; exact ⟨σ, S1, Q0, rE.mono t1, rS1, h2.1 (by simpa using z), c.go t1⟩
theorem sTs_one {op : BoolOp} {mt : Env → Sto → (Bool → Sto → Prop) → Prop} (ha : PT X a (LT X cls mt)) : PW X (.BoolOp op [a] pos) (LT X cls mt) := by
  cases op
  · exact pw_and1 ha
  · exact pw_or1 ha
theorem sTs_cons {op : BoolOp} {kk : Bool} {rest : List Expr} {mt mu : Env → Sto → (Bool → Sto → Prop) → Prop} (ho : (match op with | .And => kk | .Or => !kk) = true) (ha : PT X a (LT X cls mt)) (hb : PW X (.BoolOp op (b :: rest) pos) (LT X cls mu)) :
    PW X (.BoolOp op (a :: b :: rest) pos) (LT X cls fun σ S Q => mt σ S fun t S1 => (t = kk → mu σ S1 Q) ∧ (t = !kk → Q (!kk) S1)) := by
  cases op with
  | And =>
    replace ho : kk = true := ho
    subst ho
    refine PW_le (pw_and ha hb) fun τ H Q ⟨σ, S, Q0, rE, rS, h, c⟩ => ⟨σ, S, _, rE, rS, h, fun b S1 H1 q1 t1 rS1 => ?_⟩
    cases b with
    | true => exact ⟨σ, S1, Q0, rE.mono t1, rS1, q1.1 rfl, fun b S' H' q t r => c b S' H' q (t1.trans t) r⟩
    | false => exact c _ _ _ (q1.2 rfl) t1 rS1
  | Or =>
    replace ho : (!kk) = true := ho
    have : kk = false := by cases kk <;> first | rfl | cases ho
    subst this
    refine PW_le (pw_or ha hb) fun τ H Q ⟨σ, S, Q0, rE, rS, h, c⟩ => ⟨σ, S, _, rE, rS, h, fun b S1 H1 q1 t1 rS1 => ?_⟩
    cases b with
    | true => exact c _ _ _ (q1.2 rfl) t1 rS1
    | false => exact ⟨σ, S1, Q0, rE.mono t1, rS1, q1.1 rfl, fun b S' H' q t r => c b S' H' q (t1.trans t) r⟩
/-! ### argument lists, displays -/
theorem sA_nil : PA X [] (LA X cls 0 fun _ S Q => Q [] S) := pa_nil.le fun τ H Q ⟨σ, S, Q0, rE, rS, h, c⟩ => c _ _ _ _ h (TExt.refl H) rS .nil rfl
theorem sA_cons {L : Nat} {es : List Expr} {mr : Env → Sto → (List D → Sto → Prop) → Prop} (hs : noStar a = true) (ha : PE X a (LE X cls ma)) (hr : PA X es (LA X cls L mr)) : PA X (a :: es) (LA X cls (L + 1) fun σ S Q => ma σ S fun d S1 => mr σ S1 fun ds S2 => Q (d :: ds) S2) :=
  (pa_cons ha hr (star_cons hs)).le fun τ H Q ⟨σ, S, Q0, rE, rS, h, c⟩ => ⟨σ, S, _, rE, rS, h, fun d S1 x H1 q1 t1 rS1 rV1 => ⟨σ, S1, _, rE.mono t1, rS1, q1, fun ds S2 vs H2 q2 t2 rS2 rV2 hl => c _ _ _ _ q2 (t1.trans t2) rS2 (.cons (rV1.mono t2) rV2) (by rw [List.length_cons, hl])⟩⟩
variable {L : Nat} {es : List Expr} {mr : Env → Sto → (List D → Sto → Prop) → Prop}
theorem lift_args {G : GI} {n : Nat} {τ : L2.St} {H : Hp} {K : List D → Sto → Prop} {R : List V → Hp → Prop} {σ : Env} {S : Sto} (rE : RepE G n H σ τ) (rS : RepS G S H) (h : mr σ S K)
    (c : ∀ ds S' vs H', K ds S' → TExt H H' → RepS G S' H' → RepVs G H' ds vs → vs.length = L → R vs H') : liftA G n L mr τ H R := ⟨σ, S, K, rE, rS, h, c⟩
theorem sE_tup {kk : Nat} (h : PA X es (LA X cls L mr)) (hz : L ≤ 1000) : PE X (.Tuple es kk pos) (LE X cls fun σ S Q => mr σ S fun ds S1 => Q (.tup ds) S1) :=
  (pe_tupF h).le fun τ H Q ⟨σ, S, Q0, rE, rS, h, c⟩ => lift_args rE rS h fun ds S1 vs H1 q1 t1 rS1 rV1 hl => ⟨by rw [hl, sizeLine_eq]; omega, cont_tup (c.go t1) rS1 q1 rV1⟩
theorem sE_key {kk : Nat} (h : PA X es (LA X cls L mr)) (hz : L ≤ 1000) : PE X (.Tuple es kk pos) (LE X cls fun σ S Q => mr σ S fun ds S1 => Q (.key ds) S1) :=
  (pe_tup h).le fun τ H Q ⟨σ, S, Q0, rE, rS, h, c⟩ => lift_args rE rS h fun ds S1 vs H1 q1 t1 rS1 rV1 hl => ⟨by rw [hl, sizeLine_eq]; omega, cont_key (c.go t1) rS1 q1 rV1⟩
theorem sE_lst (h : PA X es (LA X cls L mr)) (hz : L ≤ 1000) : PE X (.List es pos) (LE X cls fun σ S Q => mr σ S fun ds S1 => newL ds S1 Q) :=
  (pe_lst h).le fun τ H Q ⟨σ, S, Q0, rE, rS, h, c⟩ => lift_args rE rS h fun ds S1 vs H1 q1 t1 rS1 rV1 hl => ⟨by rw [hl, sizeLine_eq]; omega, cont_new (c.go t1) rS1 q1 rV1⟩
theorem sE_dnew (t : Bool) : PE X (.Dict [] [] pos) (LE X cls fun _ S Q => ∀ p, S p = none → Q (.ref p) (S.put p (.dct t []))) := by
  cases t
  · refine pe_dnewK.le fun τ H Q ⟨σ, S, Q0, rE, rS, h, c⟩ p hp => ?_
    exact c _ _ _ _ (h p (rS.free hp)) (TExt.new hp) (rS.new hp ⟨[], upd_same, .nil⟩) (.ref p)
  · refine pe_dnewT.le fun τ H Q ⟨σ, S, Q0, rE, rS, h, c⟩ p hp => ?_
    exact c _ _ _ _ (h p (rS.free hp)) (TExt.new hp) (rS.new hp ⟨[], upd_same, .nil⟩) (.ref p)
theorem sE_dit {ka va : Expr} (ha : PE X ka (LE X cls ma)) (hb : PE X va (LE X cls mb)) : PE X (.Dict [some ka] [va] pos) (LE X cls fun σ S Q => ∀ p, S p = none → ma σ (S.put p (.dct false [])) fun u S1 => mb σ S1 fun v S2 => isKey false u = true ∧ S2 p = some (.dct false []) ∧ Q (.ref p) (S2.put p (.dct false [(u, v)]))) := by
  refine (pe_disp (pps_cons ha hb pps_nil) rfl rfl (by simp) (by simp)).le fun τ H Q ⟨σ, S, Q0, rE, rS, h, c⟩ p hp => ?_
  have t0 : TExt H (upd H p (.dK [])) := TExt.new hp
  refine ⟨σ, S.put p (.dct false []), _, rE.mono t0, rS.new hp ⟨[], upd_same, .nil⟩, h p (rS.free hp), fun d S1 v H1 q1 t1 rS1 rV1 => ⟨σ, S1, _, (rE.mono t0).mono t1, rS1, q1, fun e S2 w H2 q2 t2 rS2 rV2 => ?_⟩⟩
  obtain ⟨hk, h2, q2⟩ := q2
  obtain ⟨vs, h3, h4⟩ := (show ∃ vs, H2 p = some (.dK vs) ∧ RepKV ⟨X.K, cls⟩ H2 [] vs from rS2 _ _ h2)
  cases h4
  have rk := rV1.mono t2
  rcases key_cases hk with ⟨_, kk, rfl⟩ | ⟨z, _⟩
  · have hkv := kD_V rk
    subst hkv
    have t3 : TExt H2 (upd H2 p (.dK (mergeK [] [(kk, w)]))) := TExt.write (rS2.notup h2)
    refine ⟨h3, [(kk, w)], rfl, by simp, c _ _ _ _ q2 (((t0.trans t1).trans t2).trans t3) (rS2.write h2 ⟨_, upd_same, ?_⟩) (.ref p)⟩
    exact (put_kv kk rV2 .nil).mono t3
  · cases z
/-! a display of several pairs -/
def RepPr (G : GI) (H : Hp) : List (D × D) → List (V × V) → Prop := Paired fun p q => RepV G H p.1 q.1 ∧ RepV G H p.2 q.2
theorem RepPr.mono {G : GI} {H H' : Hp} (t : TExt H H') : ∀ {kvs : List (D × D)} {ps : List (V × V)}, RepPr G H kvs ps → RepPr G H' kvs ps
  | _, _, .nil => .nil
  | _, _, .cons h r => .cons ⟨h.1.mono t, h.2.mono t⟩ (RepPr.mono t r)
theorem keys_of {G : GI} {H : Hp} : ∀ {kvs : List (D × D)} {ps : List (V × V)}, RepPr G H kvs ps → (kvs.all fun kv => isKey false kv.1) = true → ∃ kk : List (Key × V), ps = kk.map (fun kv => (kV kv.1, kv.2)) ∧ RepKV G H kvs kk ∧ kk.length = kvs.length
  | _, _, .nil, _ => ⟨[], rfl, .nil, rfl⟩
  | _, _, .cons (a := p) (b := q) h r, e => by
    simp only [List.all_cons, Bool.and_eq_true] at e
    obtain ⟨kk, e1, e2, e3⟩ := keys_of r e.2
    obtain ⟨d, x⟩ := p
    obtain ⟨u, y⟩ := q
    obtain ⟨h1, h2⟩ := h
    rcases key_cases e.1 with ⟨_, k, z⟩ | ⟨z, _⟩
    · have z : d = kD k := z
      subst z
      have hu : u = kV k := kD_V h1
      subst hu
      refine ⟨(k, y) :: kk, by rw [e1]; rfl, ?_, by rw [List.length_cons, List.length_cons, e3]⟩
      cases k with
      | inl i => exact .int h2 e2
      | inr i => exact .str h2 e2
    · cases z
theorem sE_dls {keys : List (Option Expr)} {values : List Expr} {trs : List (TE × TE)} (hp : PPs X pos keys values trs) (hall : keys.all (·.isSome) = true) (hl : keys.length = values.length) (h0 : keys ≠ []) (h15 : keys.length ≤ 15)
    (run : ∀ {σ : Env} {S : Sto} {τ : L2.St} {H : Hp} {K : List D → Sto → Prop} {R : List (V × V) → Hp → Prop}, RepE ⟨X.K, cls⟩ X.N.length H σ τ → RepS ⟨X.K, cls⟩ S H → mr σ S K → (∀ ds S' ps H' kvs, K ds S' → TExt H H' → RepS ⟨X.K, cls⟩ S' H' → pairUp ds = some kvs → RepPr ⟨X.K, cls⟩ H' kvs ps → R ps H') → tPairs trs τ H R) :
    PE X (.Dict keys values pos) (LE X cls fun σ S Q => ∀ p, S p = none → mr σ (S.put p (.dct false [])) fun ds S2 => match pairUp ds with
      | some kvs => ((kvs.all fun kv => isKey false kv.1) = true ∧ kvs.length ≤ 15 ∧ S2 p = some (.dct false [])) ∧ Q (.ref p) (S2.put p (.dct false (mergeD [] kvs)))
      | none => False) := by
  refine (pe_disp hp hall hl h0 h15).le fun τ H Q ⟨σ, S, Q0, rE, rS, h, c⟩ p hp => ?_
  have t0 : TExt H (upd H p (.dK [])) := TExt.new hp
  refine run (rE.mono t0) (rS.new hp (show RepO ⟨X.K, cls⟩ _ p (.dct false []) from ⟨[], upd_same, .nil⟩)) (h p (rS.free hp)) fun ds S2 ps H2 kvs q t1 rS2 e rp => ?_
  rw [e] at q
  obtain ⟨⟨ha, hz, h2⟩, q⟩ := q
  obtain ⟨vs, h3, h4⟩ := (show ∃ vs, H2 p = some (.dK vs) ∧ RepKV ⟨X.K, cls⟩ H2 [] vs from rS2 _ _ h2)
  cases h4
  obtain ⟨kk, e1, e2, e3⟩ := keys_of rp ha
  have t3 : TExt H2 (upd H2 p (.dK (mergeK [] kk))) := TExt.write (rS2.notup h2)
  exact ⟨h3, kk, e1, by omega, c _ _ _ _ q ((t0.trans t1).trans t3) (rS2.write h2 ⟨_, upd_same, (mergeK_put .nil e2).mono t3⟩) (.ref p)⟩
/-! ### places, slices -/
theorem sE_idx (ok : Ok P cls k X) (hn : noSlice b = true) (ha : PE X a (LE X cls ma)) (hb : PE X b (LE X cls mb)) : PE X (.Subscript a b pos) (LE X cls fun σ S Q => ma σ S fun u S1 => mb σ S1 fun v S2 => ixM u v S2 Q) :=
  (pe_ix (op_ix (G := ⟨X.K, cls⟩) (by have := ok.hu; omega)) ha hb (plainIx_of hn)).le fun _ _ _ q => lift_bin q
abbrev LO (X : L2.Cx) (cls : String → Addr) (m : Env → Sto → (Option Int → Sto → Prop) → Prop) : TO := fun τ H Q => ∃ σ S Q0, RepE ⟨X.K, cls⟩ X.N.length H σ τ ∧ RepS ⟨X.K, cls⟩ S H ∧ m σ S Q0 ∧ ∀ o S' H', Q0 o S' → TExt H H' → RepS ⟨X.K, cls⟩ S' H' → Q o H'
theorem PO_le {e : Option Expr} {t t' : TO} (h : PO X e t) (l : ∀ σ H Q, t' σ H Q → t σ H Q) : PO X e t' := ⟨fun pins s σ H Q I q => h.run pins s σ H Q I (l σ H Q q)⟩
theorem sO_no : PO X none (LO X cls fun _ S Q => Q none S) := PO_le po_none fun τ H Q ⟨σ, S, Q0, rE, rS, h, c⟩ => c _ _ _ h (TExt.refl H) rS
theorem sO_so (ha : PE X a (LE X cls ma)) : PO X (some a) (LO X cls fun σ S Q => ma σ S fun d S1 => intArg d fun i => Q i S1) :=
  PO_le (po_some ha) fun τ H Q ⟨σ, S, Q0, rE, rS, h, c⟩ => ⟨σ, S, _, rE, rS, h, fun d S1 x H1 q1 t1 rS1 rV1 => by
    cases d <;> first | exact q1.elim | skip
    cases rV1
    exact ⟨_, rfl, c _ _ _ q1 t1 rS1⟩⟩
theorem sE_sli {lo hi : Option Expr} {ml mh : Env → Sto → (Option Int → Sto → Prop) → Prop} {p2 : Pos} (ha : PE X a (LE X cls ma)) (hl : PO X lo (LO X cls ml)) (hh : PO X hi (LO X cls mh)) : PE X (.Subscript a (.Slice lo hi none p2) pos)
    (LE X cls fun σ S Q => ma σ S fun u S1 => ml σ S1 fun l S2 => mh σ S2 fun h S3 => slM u l h S3 Q) :=
  (pe_slice (op_sl (G := ⟨X.K, cls⟩)) ha hl hh).le fun τ H Q ⟨σ, S, Q0, rE, rS, h, c⟩ => ⟨σ, S, _, rE, rS, h, fun u S1 x H1 q1 t1 rS1 rV1 => ⟨σ, S1, _, rE.mono t1, rS1, q1, fun l S2 H2 q2 t2 rS2 =>
    ⟨σ, S2, _, (rE.mono t1).mono t2, rS2, q2, fun hh S3 H3 q3 t3 rS3 => ⟨u, S3, Q0, (rV1.mono t2).mono t3, rS3, q3, c.go ((t1.trans t2).trans t3)⟩⟩⟩⟩
theorem sE_slr {kk : Nat} {p1 p2 p3 : Pos} (ha : PE X a (LE X cls ma)) : PE X (.Subscript a (.Slice none none (some (.UnaryOp .USub (.Constant (.int 1) kk p1) p2)) p3) pos)
    (LE X cls fun σ S Q => ma σ S fun u S1 => match u with
      | .ref p => (match S1 p with
        | some (.lst ds) => newL ds.reverse S1 Q
        | some (.rol ds) => newL ds.reverse S1 Q
        | _ => False)
      | .tup ds => Q (.tup ds.reverse) S1
      | _ => False) :=
  (pe_revA ha).le fun τ H Q ⟨σ, S, Q0, rE, rS, h, c⟩ => ⟨σ, S, _, rE, rS, h, fun u S1 x H1 q1 t1 rS1 rV1 => by
    split at q1
    · cases rV1
      split at q1
      · rename_i h
        obtain ⟨vs, h1, w⟩ := rS1.isL (.inl h)
        exact ⟨_, vs, rfl, .inl ⟨h1, cont_new (c.go t1) rS1 q1 w.reverse⟩⟩
      · rename_i h
        obtain ⟨vs, h1, w⟩ := rS1.isL (.inr h)
        exact ⟨_, vs, rfl, .inl ⟨h1, cont_new (c.go t1) rS1 q1 w.reverse⟩⟩
      · exact q1.elim
    · obtain ⟨p, vs, rfl, h1, w⟩ := rV1.seqT (.inl rfl)
      exact ⟨_, vs, rfl, .inr ⟨h1, cont_tup (c.go t1) rS1 q1 w.reverse⟩⟩
    · exact q1.elim⟩
/-! max(a, default=b) -/
theorem sE_mxd {k : Nat} {P : Prog} {p pos kpos : Pos} (ok : Ok P cls k X) (g1 : isGl X.env.scope "max" = true) (hs : noStar a = true) (ha : PE X a (LE X cls ma)) (hb : PE X b (LE X cls mb)) : PE X (.Call (.Name "max" p) [a] [⟨some "default", b, kpos⟩] pos)
    (LE X cls fun σ S Q => ma σ S fun u S1 => mb σ S1 fun v S2 => mxdM u v S2 Q) :=
  (pe_callBK (cr_maxDf ok.calm) (gl_of g1) (ok.bl "max" (by decide)) boot_max (pa_cons ha pa_nil (star_cons hs)) (pk_cons hb pk_nil) (he := by rw [star_cons hs]; rfl) (hpl := by rw [star_cons hs]; rfl)).le fun τ H Q ⟨σ, S, Q0, rE, rS, h, c⟩ => ⟨σ, S, _, rE, rS, h, fun u S1 x H1 q1 t1 rS1 rV1 => ⟨σ, S1, _, rE.mono t1, rS1, q1, fun v S2 y H2 q2 t2 rS2 rV2 => by
    unfold mxdM at q2
    split at q2
    · cases rV2
      split at q2
      · rename_i h
        split at q2
        · rename_i h2
          have rV1 := rV1.mono t2
          cases rV1
          obtain ⟨vs, h1, w⟩ := rS2.isL (seq_ref h)
          rw [w.ints h2] at h1
          exact ⟨_, _, _, rfl, rfl, h1, fun z => cont_same (c.go (t1.trans t2)) rS2 (q2.1 z) (.int _), fun m m1 m2 => cont_same (c.go (t1.trans t2)) rS2 (q2.2 m m1 m2) (.int _)⟩
        · exact q2.elim
      · exact q2.elim
    · exact q2.elim⟩⟩
/-! ### calls -/
theorem sE_blt (ok : Ok P cls k X) {f : Bf} {n : String} {fv : Value} {p : Pos} (hf : bfV f = some (n, fv)) (h1 : isGl X.env.scope (Str.ofString n) = true) (h2 : okName (Str.ofString n) = true) (hs : ((a :: es).all noStar) = true) (ha : PA X (a :: es) (LA X cls L mr)) :
    PE X (.Call (.Name (Str.ofString n) p) (a :: es) [] pos) (LE X cls fun σ S Q => mr σ S fun ds S1 => bfM P.fl f ds S1 Q) := by
  obtain ⟨n1, n2, n3⟩ := okName_of h2
  obtain ⟨hb, hm, hv⟩ := bf_boot hf
  simp only [List.all_cons, Bool.and_eq_true] at hs
  have hc := op_bf (X := X) (G := ⟨X.K, cls⟩) (by have := ok.room.un; omega) ok.clsF ok.calm (fun _ _ _ _ I => ok.room.hd) hf
  have red : ∀ τ H Q, LE X cls (fun σ S Q => mr σ S fun ds S1 => bfM P.fl f ds S1 Q) τ H Q → tCB (liftBf ⟨X.K, cls⟩ (bfM P.fl f)) (LA X cls L mr) τ H Q := fun τ H Q ⟨σ, S, Q0, rE, rS, h, c⟩ =>
    lift_args rE rS h fun ds S1 vs H1 q1 t1 rS1 rV1 hl => ⟨ds, S1, Q0, rV1, rS1, q1, c.go t1⟩
  rcases hv with ⟨id, rfl⟩ | ⟨T, rfl⟩
  · exact (pe_callB hc (gl_of h1) (ok.bl n hm) hb ha n3 n1 (star_cons hs.1) (back_plain hs.2).1).le red
  · exact (pe_callTy hc (gl_of h1) (ok.bl n hm) hb ha n3 n1 (star_cons hs.1) (back_plain hs.2).1).le red
theorem nf_false {e : Expr} {A : Prop} {m : Env → Sto → QE → Prop} (h : ¬ A) : PE X e (LE X cls fun σ S Q => A ∧ m σ S Q) := ⟨fun _ _ _ _ _ _ ⟨_, _, _, _, _, q, _⟩ => (h q.1).elim⟩
theorem sE_cal0 (ok : Ok P cls k X) {f : String} {p : Pos} (h1 : isGl X.env.scope (Str.ofString f) = true) (h2 : okName (Str.ofString f) = true) :
    PE X (.Call (.Name (Str.ofString f) p) [] [] pos) (LE X cls fun σ S Q => hasF P .pl f ∧ wpCall P k .pl f [] S Q xN) := by
  obtain ⟨n1, n2, n3⟩ := okName_of h2
  by_cases hf : hasF P .pl f
  · obtain ⟨fd, e1, e2⟩ := hf
    have := ok.fns f fd e1
    rw [e2] at this
    obtain ⟨fa, fdd, ps, F, hm, hk, hb⟩ := this
    exact (pe_call0 F (ok.room.mono (by omega)) (gl_of h1) hm hk hb .nil pass0 n1).le fun τ H Q ⟨σ, S, Q0, rE, rS, h, c⟩ => ⟨[], S, Q0, .nil, rS, h.2, c⟩
  · exact nf_false hf
theorem sE_cal (ok : Ok P cls k X) {f : String} {p : Pos} (h1 : isGl X.env.scope (Str.ofString f) = true) (h2 : okName (Str.ofString f) = true) (hs : ((a :: es).all noStar) = true) (ha : PA X (a :: es) (LA X cls L mr)) :
    PE X (.Call (.Name (Str.ofString f) p) (a :: es) [] pos) (LE X cls fun σ S Q => hasF P .pl f ∧ mr σ S fun ds S1 => wpCall P k .pl f ds S1 Q xN) := by
  obtain ⟨n1, n2, n3⟩ := okName_of h2
  by_cases hf : hasF P .pl f
  · obtain ⟨fd, e1, e2⟩ := hf
    have := ok.fns f fd e1
    rw [e2] at this
    obtain ⟨fa, fdd, ps, F, hm, hk, hb⟩ := this
    simp only [List.all_cons, Bool.and_eq_true] at hs
    exact (pe_call F (ok.room.mono (by omega)) (gl_of h1) hm hk hb .nil pass0 ha n1 (star_cons hs.1) (back_plain hs.2).1).le fun τ H Q ⟨σ, S, Q0, rE, rS, h, c⟩ =>
      lift_args rE rS h.2 fun ds S1 vs H1 q1 t1 rS1 rV1 hl => ⟨ds, S1, Q0, by rw [List.append_nil]; exact rV1, rS1, q1, c.go t1⟩
  · exact nf_false hf
theorem sE_cald0 (ok : Ok P cls k X) {f : String} {p : Pos} (h1 : isGl X.env.scope (Str.ofString f) = true) (h2 : okName (Str.ofString f) = true) :
    PE X (.Call (.Name (Str.ofString f) p) [] [] pos) (LE X cls fun σ S Q => (hasF P .pl f ∧ P.df f ≠ []) ∧ wpCall P k .pl f ([] ++ P.df f) S Q xN) := by
  obtain ⟨n1, n2, n3⟩ := okName_of h2
  by_cases hf : hasF P .pl f ∧ P.df f ≠ []
  · obtain ⟨⟨fd, e1, e2⟩, hd⟩ := hf
    obtain ⟨fa, fdd, ps, dv, us, F, hm, hk, hb, hv, hr⟩ := ok.fnd f fd e1 e2 hd
    exact (pe_call0 F (ok.room.mono (by omega)) (gl_of h1) hm hk hb hv pass0 n1).le fun τ H Q ⟨σ, S, Q0, rE, rS, h, c⟩ => ⟨_, S, Q0, hr H, rS, h.2, c⟩
  · exact nf_false hf
theorem RepVs.app {G : GI} {H : Hp} : ∀ {ds es : List D} {vs us : List V}, RepVs G H ds vs → RepVs G H es us → RepVs G H (ds ++ es) (vs ++ us)
  | _, _, _, _, .nil, b => b
  | _, _, _, _, .cons a r, b => .cons a (RepVs.app r b)
theorem sE_cald (ok : Ok P cls k X) {f : String} {p : Pos} (h1 : isGl X.env.scope (Str.ofString f) = true) (h2 : okName (Str.ofString f) = true) (hs : ((a :: es).all noStar) = true) (ha : PA X (a :: es) (LA X cls L mr)) :
    PE X (.Call (.Name (Str.ofString f) p) (a :: es) [] pos) (LE X cls fun σ S Q => (hasF P .pl f ∧ P.df f ≠ []) ∧ mr σ S fun ds S1 => wpCall P k .pl f (ds ++ P.df f) S1 Q xN) := by
  obtain ⟨n1, n2, n3⟩ := okName_of h2
  by_cases hf : hasF P .pl f ∧ P.df f ≠ []
  · obtain ⟨⟨fd, e1, e2⟩, hd⟩ := hf
    obtain ⟨fa, fdd, ps, dv, us, F, hm, hk, hb, hv, hr⟩ := ok.fnd f fd e1 e2 hd
    simp only [List.all_cons, Bool.and_eq_true] at hs
    exact (pe_call F (ok.room.mono (by omega)) (gl_of h1) hm hk hb hv pass0 ha n1 (star_cons hs.1) (back_plain hs.2).1).le fun τ H Q ⟨σ, S, Q0, rE, rS, h, c⟩ =>
      lift_args rE rS h.2 fun ds S1 vs H1 q1 t1 rS1 rV1 hl => ⟨ds ++ P.df f, S1, Q0, RepVs.app rV1 (hr H1), rS1, q1, c.go t1⟩
  · exact nf_false hf
theorem made_of {G : GI} {w : Wh} {f cn : String} {x dx : Addr} {ds : List D} {vs : List V} {S : Sto} {H : Hp} {Q0 : QE} {Q : VK} (rS : RepS G S H) (h : ∀ p, S p = none → wpCall P k w f (.ref p :: ds) (S.put p (.ins cn [])) (fun d S2 => d = .non ∧ Q0 (.ref p) S2) xN) (c : Cont G Q0 H Q)
    (hx : H x = none) (hdx : H dx = none) (hne : dx ≠ x) (r : RepVs G H ds vs) : liftSp G P k w f (.ref x :: vs) (upd (upd H dx (.own x)) x (.ins (G.cls cn) dx [])) (fun v H2 => v = .non ∧ Q (.ref x) H2) E0 := by
  have hx2 : upd H dx (.own x) x = none := by rw [upd_ne (Ne.symm hne)]; exact hx
  have t : TExt H (upd (upd H dx (.own x)) x (.ins (G.cls cn) dx [])) := (TExt.new hdx).trans (TExt.new hx2)
  refine ⟨.ref x :: ds, _, _, .cons (.ref x) (r.mono t), (rS.laid hdx).new hx2 (show RepO G _ x (.ins cn []) from ⟨dx, [], upd_same, .nil⟩), h x (rS.free hx), fun d S' v H' q t' rS' rV' => ?_⟩
  obtain ⟨rfl, q⟩ := q
  cases rV'
  exact ⟨rfl, c _ _ _ _ q (t.trans t') rS' (.ref x)⟩
theorem sE_mak0 (ok : Ok P cls k X) {cn f : String} {p : Pos} (h1 : isGl X.env.scope (Str.ofString cn) = true) (h2 : okName (Str.ofString cn) = true) :
    PE X (.Call (.Name (Str.ofString cn) p) [] [] pos) (LE X cls fun σ S Q => hasF P (.it cn) f ∧ ∀ p, S p = none → wpCall P k (.it cn) f [.ref p] (S.put p (.ins cn [])) (fun d S2 => d = .non ∧ Q (.ref p) S2) xN) := by
  obtain ⟨n1, n2, n3⟩ := okName_of h2
  by_cases hf : hasF P (.it cn) f
  · obtain ⟨fd, e1, e2⟩ := hf
    have := ok.fns f fd e1
    rw [e2] at this
    obtain ⟨fa, fdd, ps, F, M, hm, hb⟩ := this
    refine (pe_make0 M F ok.room (gl_of h1) hm hb .nil pass0 n1).le fun τ H Q ⟨σ, S, Q0, rE, rS, h, c⟩ x dx hx hdx hne => ?_
    exact made_of rS h.2 c hx hdx hne .nil
  · exact nf_false hf
theorem sE_mak (ok : Ok P cls k X) {cn f : String} {p : Pos} (h1 : isGl X.env.scope (Str.ofString cn) = true) (h2 : okName (Str.ofString cn) = true) (hs : ((a :: es).all noStar) = true) (ha : PA X (a :: es) (LA X cls L mr)) :
    PE X (.Call (.Name (Str.ofString cn) p) (a :: es) [] pos) (LE X cls fun σ S Q => hasF P (.it cn) f ∧ mr σ S fun ds S1 => ∀ p, S1 p = none → wpCall P k (.it cn) f (.ref p :: ds) (S1.put p (.ins cn [])) (fun d S2 => d = .non ∧ Q (.ref p) S2) xN) := by
  obtain ⟨n1, n2, n3⟩ := okName_of h2
  by_cases hf : hasF P (.it cn) f
  · obtain ⟨fd, e1, e2⟩ := hf
    have := ok.fns f fd e1
    rw [e2] at this
    obtain ⟨fa, fdd, ps, F, M, hm, hb⟩ := this
    simp only [List.all_cons, Bool.and_eq_true] at hs
    refine (pe_make M F ok.room (gl_of h1) hm hb .nil pass0 ha n1 (star_cons hs.1) (back_plain hs.2).1).le fun τ H Q ⟨σ, S, Q0, rE, rS, h, c⟩ =>
      lift_args rE rS h.2 fun ds S1 vs H1 q1 t1 rS1 rV1 hl x dx hx hdx hne => ?_
    rw [List.append_nil]
    exact made_of rS1 q1 (c.go t1) hx hdx hne rV1
  · exact nf_false hf
theorem few_of {pos : Pos} {args : List Expr} {env : PySem.Env} (hs : (args.all noStar) = true) (hl : args.length < 30) : methodCallForm (args.length + ([] : List Keyword).length) (backTo pos (starEach args env)) (backToKw pos (keywordEach [] env)) = true := by
  unfold methodCallForm
  rw [(back_plain hs).2]
  show (true && true && decide (args.length + 0 + 0 < 30)) = true
  simp [hl]
theorem meth_tree {o : Expr} {m : Str} {apos : Pos} {args : List Expr} {env : PySem.Env} (h1 : noCall0 o = true) (hs : (args.all noStar) = true) (hl : args.length < 30) (hp : (apos.endLine == pos.line) = true) : eval (.Call (.Attribute o m apos) args [] pos) env = (do
      let ov ← eval o env
      standAt apos.atName
      let (f, first) ← holding [ov] (getMethod ov m (do return (← importBound o env).getD true))
      callWith pos f first (backTo pos (starEach args env)) (backToKw pos (keywordEach [] env))) := by
  show (do
    let ov ← attributeBase o m env (eval o env)
    standAt apos.atName
    methodCall o m apos pos env ov (args.length + ([] : List Keyword).length) (backTo pos (starEach args env)) (backToKw pos (keywordEach [] env))) = _
  rw [attrBase_of h1]
  congr; funext ov; congr; funext _
  unfold methodCall
  rw [few_of hs hl]
  unfold methodCallPos calleeOf
  rw [hp]
  rfl
theorem sE_met0 (ok : Ok P cls k X) {cn m f : String} {apos : Pos} (h1 : noCall0 a = true) (hp : (apos.endLine == pos.line) = true) (ha : PE X a (LE X cls ma)) :
    PE X (.Call (.Attribute a (Str.ofString m) apos) [] [] pos) (LE X cls fun σ S Q => hasF P (.mt cn m) f ∧ ma σ S fun u S1 => match u with
      | .ref p => (match S1 p with
        | some (.ins c' fs) => c' = cn ∧ fs.lookup m = none ∧ wpCall P k (.mt cn m) f [.ref p] S1 Q xN
        | _ => False)
      | _ => False) := by
  by_cases hf : hasF P (.mt cn m) f
  · obtain ⟨fd, e1, e2⟩ := hf
    have := ok.fns f fd e1
    rw [e2] at this
    obtain ⟨fa, fdd, ps, F, M, C, hb, hfl⟩ := this
    refine (pe_meth0 ha C M F (ok.room.mono (by omega)) hb .nil pass0 (meth_tree h1 rfl (by decide) hp)).le fun τ H Q ⟨σ, S, Q0, rE, rS, h, c⟩ => ⟨σ, S, _, rE, rS, h.2, fun u S1 x H1 q1 t1 rS1 rV1 => ?_⟩
    split at q1
    · cases rV1
      split at q1
      · rename_i c' fs hS
        obtain ⟨rfl, hl, q1⟩ := q1
        obtain ⟨dx, vs, h2, h3⟩ := (show ∃ dx vs, H1 _ = some (.ins (cls c') dx vs) ∧ RepF ⟨X.K, cls⟩ H1 fs vs from rS1 _ _ hS)
        exact ⟨_, dx, vs, rfl, h2, h3.none hl, [.ref _], S1, Q0, .cons (.ref _) .nil, rS1, q1, c.go t1⟩
      · exact q1.elim
    · exact q1.elim
  · exact nf_false hf
theorem sE_met (ok : Ok P cls k X) {cn m f : String} {apos : Pos} (h1 : noCall0 a = true) (hp : (apos.endLine == pos.line) = true) (hlen : (b :: es).length < 30) (ha : PE X a (LE X cls ma)) (hs : ((b :: es).all noStar) = true) (hr : PA X (b :: es) (LA X cls L mr)) :
    PE X (.Call (.Attribute a (Str.ofString m) apos) (b :: es) [] pos) (LE X cls fun σ S Q => hasF P (.mt cn m) f ∧ ma σ S fun u S1 => match u with
      | .ref p => (match S1 p with
        | some (.ins c' fs) => c' = cn ∧ fs.lookup m = none ∧ mr σ S1 fun ds S2 => wpCall P k (.mt cn m) f (.ref p :: ds) S2 Q xN
        | _ => False)
      | _ => False) := by
  by_cases hf : hasF P (.mt cn m) f
  · obtain ⟨fd, e1, e2⟩ := hf
    have := ok.fns f fd e1
    rw [e2] at this
    obtain ⟨fa, fdd, ps, F, M, C, hb, hfl⟩ := this
    have hs' := hs
    simp only [List.all_cons, Bool.and_eq_true] at hs'
    refine (pe_meth ha C M F (ok.room.mono (by omega)) hb .nil pass0 hr (star_cons hs'.1) (back_plain hs'.2).1 (meth_tree h1 hs hlen hp)).le fun τ H Q ⟨σ, S, Q0, rE, rS, h, c⟩ => ⟨σ, S, _, rE, rS, h.2, fun u S1 x H1 q1 t1 rS1 rV1 => ?_⟩
    split at q1
    · cases rV1
      split at q1
      · rename_i c' fs hS
        obtain ⟨rfl, hl, q1⟩ := q1
        obtain ⟨dx, vs, h2, h3⟩ := (show ∃ dx vs, H1 _ = some (.ins (cls c') dx vs) ∧ RepF ⟨X.K, cls⟩ H1 fs vs from rS1 _ _ hS)
        refine ⟨_, dx, vs, rfl, h2, h3.none hl, lift_args (rE.mono t1) rS1 q1 fun ds S2 us H2 q2 t2 rS2 rV2 hl2 => ?_⟩
        exact ⟨.ref _ :: ds, S2, Q0, .cons (.ref _) (by rw [List.append_nil]; exact rV2), rS2, q2, c.go (t1.trans t2)⟩
      · exact q1.elim
    · exact q1.elim
  · exact nf_false hf
theorem bm_facts {m : Bm} {n id : String} (h : bmId m = some (n, id)) : PlainAttrs (bmT m) ∧ Slot (bmT m) (Str.ofString n) id ∧ typeOf (.builtin id) = pure (.type "method_descriptor") := by
  cases m <;> simp only [bmId, Option.some.injEq, Prod.mk.injEq, reduceCtorEq] at h <;> obtain ⟨rfl, rfl⟩ := h
  · exact ⟨PySem.F.plainAttrs_list, PySem.F.slot_list_append, PySem.F.type_list_append⟩
  · exact ⟨PySem.F.plainAttrs_list, PySem.F.slot_list_extend, PySem.F.type_list_extend⟩
  · exact ⟨PySem.F.plainAttrs_list, PySem.F.slot_list_pop, PySem.F.type_list_pop⟩
  · exact ⟨PySem.F.plainAttrs_list, PySem.F.slot_list_pop, PySem.F.type_list_pop⟩
  · exact ⟨PySem.F.plainAttrs_str, PySem.F.slot_str_join, PySem.F.type_str_join⟩
  · exact ⟨PySem.F.plainAttrs_dict, PySem.F.slot_dict_get, PySem.F.type_dict_get⟩
  · exact ⟨PySem.F.plainAttrs_dict, PySem.F.slot_dict_get, PySem.F.type_dict_get⟩
  · exact ⟨PySem.F.plainAttrs_dict, PySem.F.slot_dict_setdefault, PySem.F.type_dict_setdefault⟩
  · exact ⟨PySem.F.plainAttrs_list, PySem.F.slot_list_index, PySem.F.type_list_index⟩
  · exact ⟨PySem.F.plainAttrs_list, PySem.F.slot_list_clear, PySem.F.type_list_clear⟩
  · exact ⟨PySem.F.plainAttrs_str, PySem.F.slot_str_split, PySem.F.type_str_split⟩
  · exact ⟨PySem.F.plainAttrs_dict, PySem.F.slot_dict_clear, PySem.F.type_dict_clear⟩
theorem sE_bm0 (ok : Ok P cls k X) {m : Bm} {n id : String} {apos : Pos} (hm : bmId m = some (n, id)) (h1 : noCall0 a = true) (hp : (apos.endLine == pos.line) = true) (ha : PE X a (LE X cls ma)) :
    PE X (.Call (.Attribute a (Str.ofString n) apos) [] [] pos) (LE X cls fun σ S Q => ma σ S fun u S1 => bmB m u S1 = true ∧ bmM m u [] S1 Q) := by
  obtain ⟨f1, f2, f3⟩ := bm_facts hm
  refine (pe_bm0 f1 f2 f3 (op_bm (G := ⟨X.K, cls⟩) (by have := ok.hu; omega) hm) ha (attrBase_of h1 _) hp).le fun τ H Q ⟨σ, S, Q0, rE, rS, h, c⟩ => ⟨σ, S, _, rE, rS, h, fun u S1 x H1 q1 t1 rS1 rV1 => ?_⟩
  exact ⟨bmB_ty rS1 rV1 q1.1, u, [], S1, Q0, rV1, .nil, rS1, q1.2, c.go t1⟩
theorem sE_bm (ok : Ok P cls k X) {m : Bm} {n id : String} {apos : Pos} (hm : bmId m = some (n, id)) (h1 : noCall0 a = true) (hp : (apos.endLine == pos.line) = true) (hlen : (b :: es).length < 30) (ha : PE X a (LE X cls ma)) (hs : ((b :: es).all noStar) = true) (hr : PA X (b :: es) (LA X cls L mr)) :
    PE X (.Call (.Attribute a (Str.ofString n) apos) (b :: es) [] pos) (LE X cls fun σ S Q => ma σ S fun u S1 => bmB m u S1 = true ∧ mr σ S1 fun ds S2 => bmM m u ds S2 Q) := by
  obtain ⟨f1, f2, f3⟩ := bm_facts hm
  have hs' := hs
  simp only [List.all_cons, Bool.and_eq_true] at hs'
  refine (pe_bm f1 f2 f3 (op_bm (G := ⟨X.K, cls⟩) (by have := ok.hu; omega) hm) ha hr (attrBase_of h1 _) ?_ hp (star_cons hs'.1) (back_plain hs'.2).1).le fun τ H Q ⟨σ, S, Q0, rE, rS, h, c⟩ => ⟨σ, S, _, rE, rS, h, fun u S1 x H1 q1 t1 rS1 rV1 => ?_⟩
  · rw [(back_plain hs).2]
    show (true && true && decide ((b :: es).length + 0 + 0 < 30)) = true
    simpa using hlen
  · exact ⟨bmB_ty rS1 rV1 q1.1, lift_args (rE.mono t1) rS1 q1.2 fun ds S2 us H2 q2 t2 rS2 rV2 hl2 => ⟨u, ds, S2, Q0, rV1.mono t2, rV2, rS2, q2, c.go (t1.trans t2)⟩⟩
theorem sE_fld (ok : Ok P cls k X) {f : String} (hf : f ≠ "") (h1 : noCall0 a = true) (ha : PE X a (LE X cls ma)) : PE X (.Attribute a (Str.ofString f) pos) (LE X cls fun σ S Q => ma σ S fun u S1 => fldM P.fl u f S1 Q) := by
  refine (pe_fld ha (attrBase_of h1 _)).le fun τ H Q ⟨σ, S, Q0, rE, rS, h, c⟩ => ⟨σ, S, _, rE, rS, h, fun u S1 x H1 q1 t1 rS1 rV1 => ?_⟩
  unfold fldM at q1
  split at q1
  · cases rV1
    split at q1
    · rename_i cn fs hS
      obtain ⟨hfl, q1⟩ := q1
      split at q1
      · rename_i d hd
        obtain ⟨dx, vs, h2, h3⟩ := (show ∃ dx vs, H1 _ = some (.ins (cls cn) dx vs) ∧ RepF ⟨X.K, cls⟩ H1 fs vs from rS1 _ _ hS)
        obtain ⟨v, h4, h5⟩ := h3.some hd
        obtain ⟨k1, k2⟩ := ok.clsF.fld cn f hfl hf
        exact ⟨_, _, dx, vs, v, rfl, h2, k2, k1, h4, c _ _ _ _ q1 t1 rS1 h5⟩
      · exact q1.elim
    · exact q1.elim
  · exact q1.elim
/-! ### list(range(..)), list(d.items()) -/
theorem rgV_rep {G : GI} {H : Hp} (a b : Int) : RepVs G H (rngL a b) (rgV a b) := by
  have e1 : rngL a b = ((List.range (b - a).toNat).map fun i => a + (i : Nat)).map D.int := by unfold rngL; rw [List.map_map]; rfl
  have e2 : rgV a b = ((List.range (b - a).toNat).map fun i => a + (i : Nat)).map V.int := by unfold rgV; rw [List.map_map]; rfl
  rw [e1, e2]; exact RepVs.ofInts _
theorem sE_lr1 (ok : Ok P cls k X) {p q pos2 : Pos} (g1 : isGl X.env.scope "list" = true) (g2 : isGl X.env.scope "range" = true) (hs : noStar a = true) (ha : PE X a (LE X cls ma)) : PE X (.Call (.Name "list" p) [.Call (.Name "range" q) [a] [] pos2] [] pos)
    (LE X cls fun σ S Q => ma σ S fun u S1 => match u with
      | .int n => rngOk 0 n ∧ newL (rngL 0 n) S1 Q
      | _ => False) :=
  (pe_listRg ok.calm (gl_of g1) (ok.bl "list" (by decide)) (prg_1 (gl_of g2) (ok.bl "range" (by decide)) ha (star_cons hs))).le fun τ H Q ⟨σ, S, Q0, rE, rS, h, c⟩ => ⟨σ, S, _, rE, rS, h, fun u S1 x H1 q1 t1 rS1 rV1 => by
    split at q1
    · cases rV1
      exact ⟨_, rfl, q1.1, cont_new (c.go t1) rS1 q1.2 (rgV_rep _ _)⟩
    · exact q1.elim⟩
theorem sE_tr1 (ok : Ok P cls k X) {p q pos2 : Pos} (g1 : isGl X.env.scope "tuple" = true) (g2 : isGl X.env.scope "range" = true) (hs : noStar a = true) (ha : PE X a (LE X cls ma)) : PE X (.Call (.Name "tuple" p) [.Call (.Name "range" q) [a] [] pos2] [] pos)
    (LE X cls fun σ S Q => ma σ S fun u S1 => match u with
      | .int n => rngOk 0 n ∧ Q (.tup (rngL 0 n)) S1
      | _ => False) :=
  (pe_tupRgF ok.calm (gl_of g1) (ok.bl "tuple" (by decide)) (prg_1 (gl_of g2) (ok.bl "range" (by decide)) ha (star_cons hs))).le fun τ H Q ⟨σ, S, Q0, rE, rS, h, c⟩ => ⟨σ, S, _, rE, rS, h, fun u S1 x H1 q1 t1 rS1 rV1 => by
    split at q1
    · cases rV1
      exact ⟨_, rfl, q1.1, cont_tup (c.go t1) rS1 q1.2 (rgV_rep _ _)⟩
    · exact q1.elim⟩
theorem sE_tr2 (ok : Ok P cls k X) {p q pos2 : Pos} (g1 : isGl X.env.scope "tuple" = true) (g2 : isGl X.env.scope "range" = true) (hs : noStar a = true) (hs2 : noStar b = true) (ha : PE X a (LE X cls ma)) (hb : PE X b (LE X cls mb)) : PE X (.Call (.Name "tuple" p) [.Call (.Name "range" q) [a, b] [] pos2] [] pos)
    (LE X cls fun σ S Q => ma σ S fun u S1 => mb σ S1 fun v S2 => match u with
      | .int i => (match v with
        | .int j => rngOk i j ∧ Q (.tup (rngL i j)) S2
        | _ => False)
      | _ => False) := by
  refine (pe_tupRgF ok.calm (gl_of g1) (ok.bl "tuple" (by decide)) (prg_2 (gl_of g2) (ok.bl "range" (by decide)) ha hb (star_cons hs) (star_cons hs2) (by rw [star_cons hs2]; rfl))).le fun τ H Q ⟨σ, S, Q0, rE, rS, h, c⟩ => ⟨σ, S, _, rE, rS, h, fun u S1 x H1 q1 t1 rS1 rV1 => ⟨σ, S1, _, rE.mono t1, rS1, q1, fun v S2 y H2 q2 t2 rS2 rV2 => ?_⟩⟩
  split at q2
  · cases rV1
    split at q2
    · cases rV2
      exact ⟨_, _, rfl, rfl, q2.1, cont_tup ((c.go t1).go t2) rS2 q2.2 (rgV_rep _ _)⟩
    · exact q2.elim
  · exact q2.elim
theorem sE_lr2 (ok : Ok P cls k X) {p q pos2 : Pos} (g1 : isGl X.env.scope "list" = true) (g2 : isGl X.env.scope "range" = true) (hs : noStar a = true) (hs2 : noStar b = true) (ha : PE X a (LE X cls ma)) (hb : PE X b (LE X cls mb)) : PE X (.Call (.Name "list" p) [.Call (.Name "range" q) [a, b] [] pos2] [] pos)
    (LE X cls fun σ S Q => ma σ S fun u S1 => mb σ S1 fun v S2 => match u with
      | .int i => (match v with
        | .int j => rngOk i j ∧ newL (rngL i j) S2 Q
        | _ => False)
      | _ => False) :=
  (pe_listRg ok.calm (gl_of g1) (ok.bl "list" (by decide)) (prg_2 (gl_of g2) (ok.bl "range" (by decide)) ha hb (star_cons hs) (star_cons hs2) (by rw [star_cons hs2]; rfl))).le fun τ H Q ⟨σ, S, Q0, rE, rS, h, c⟩ => ⟨σ, S, _, rE, rS, h, fun u S1 x H1 q1 t1 rS1 rV1 => ⟨σ, S1, _, rE.mono t1, rS1, q1, fun v S2 y H2 q2 t2 rS2 rV2 => by
    split at q2
    · cases rV1
      split at q2
      · cases rV2
        exact ⟨_, _, rfl, rfl, q2.1, cont_new (c.go (t1.trans t2)) rS2 q2.2 (rgV_rep _ _)⟩
      · exact q2.elim
    · exact q2.elim⟩⟩
theorem items_rep {G : GI} {H H' : Hp} (t : TExt H H') : ∀ {kvs : List (D × D)} {vs : List (Key × V)} {ts : List Addr}, RepKV G H kvs vs → Paired (fun (t : Addr) (q : Key × V) => H' t = some (.tup [kV q.1, q.2])) ts vs → RepVs G H' (kvs.map fun kv => .key [kv.1, kv.2]) (ts.map V.ref)
  | _, _, _, .nil, .nil => .nil
  | _, _, _, .int a b, .cons e p => .cons (.key e (.cons (.int _) (.cons (a.mono t) .nil))) (items_rep t b p)
  | _, _, _, .str a b, .cons e p => .cons (.key e (.cons (.str _) (.cons (a.mono t) .nil))) (items_rep t b p)
theorem sE_lit (ok : Ok P cls k X) {p : Pos} {apos cpos : Pos} (g1 : isGl X.env.scope "list" = true) (h1 : noCall0 a = true) (hp : (apos.endLine == cpos.line) = true) (ha : PE X a (LE X cls ma)) : PE X (.Call (.Name "list" p) [.Call (.Attribute a "items" apos) [] [] cpos] [] pos)
    (LE X cls fun σ S Q => ma σ S fun u S1 => match u with
      | .ref p => (match S1 p with
        | some (.dct t kvs) => t = false ∧ newL (kvs.map fun kv => .key [kv.1, kv.2]) S1 Q
        | _ => False)
      | _ => False) :=
  (LiI.pe_listItems ok.calm ha (gl_of g1) (ok.bl "list" (by decide)) (boot_all ("list", .type "list") (by simp)).1 (attrBase_of h1 _) hp).le fun τ H Q ⟨σ, S, Q0, rE, rS, h, c⟩ => ⟨σ, S, _, rE, rS, h, fun u S1 x H1 q1 t1 rS1 rV1 => by
    split at q1
    · cases rV1
      split at q1
      · rename_i hS
        obtain ⟨rfl, q1⟩ := q1
        obtain ⟨vs, h2, h3⟩ := (show ∃ vs, H1 _ = some (.dK vs) ∧ RepKV ⟨X.K, cls⟩ H1 _ vs from rS1 _ _ hS)
        refine ⟨_, vs, rfl, h2, fun H' p ts kp hpn htn hpt hl hpr => ?_⟩
        have t2 : TExt H1 H' := fun b o _ e => kp b o e
        have rS2 : RepS ⟨X.K, cls⟩ (S1.put p (.lst _)) H' := fun b o e => by
          by_cases z : b = p
          · subst z
            rw [Sto.put_same] at e; cases e
            exact ⟨_, hl, items_rep t2 h3 hpr⟩
          · rw [Sto.put_ne z] at e
            have r := rS1 b o e
            obtain ⟨w, hw, _⟩ := r.there
            exact r.mono t2 (by rw [hw, kp b _ hw])
        exact c _ _ _ _ (q1 p (rS1.free hpn)) (t1.trans t2) rS2 (.ref p)
      · exact q1.elim
    · exact q1.elim⟩
end
end Lr

set_option Elab.async false
set_option linter.all false
set_option maxRecDepth 100000
set_option maxHeartbeats 4000000
/-! own ==, len, str; f-strings; calls with the last parameter by name -/
namespace Lr
open PySem PySem.Spec PyProof.Rows L2
variable {P : Prog} {cls : String → Addr} {k : Nat} {X : L2.Cx}
section
variable {a b : Expr} {es : List Expr} {pos : Pos} {ma mb : Env → Sto → QE → Prop} {mr : Env → Sto → (List D → Sto → Prop) → Prop}
/-- a def called somewhere about -/
theorem run_fnA {A : Around} {CX : CXT} {j : Nat} {f : Addr} {fd : FuncData} {ps : List Str} {sp : Sp} {E : XK} {pins : List (Addr × Obj)} {σ : L2.St} {H : Hp} {s : Shared} {Q : VK} {us : List Value} {vs : List V} (hfr : A.frames = X.A.frames) (F : FnOk X.prog X.w X.K X.mg X.base CX j f fd ps sp) (hr : Room j A) (hb : Binds X.K fd ps []) (hx : Passes CX X E)
    (I : L2.Inv X pins σ H s) (r : Vals vs us) (h : sp vs H Q E) : wpAny (model X.prog X.w) A (call (.ref f) us) (EP X pins σ Q) X.xe s := by
  have hl : us.length = ps.length := by rw [← r.length]; exact F.len _ _ _ _ h
  have e0 : Env0 X.prog X.w X.K X.mg X.base A X.stack s H := by
    have e := I.env0
    exact ⟨by rw [hfr]; exact e.frames, e.mod, e.bs, e.bsz, e.funs, e.frf, e.hok, e.bare⟩
  refine wpAny_call (codeAny_mono (F.run A X.stack s H ⟨us, []⟩ us vs Q E hr e0 (by
    have := hb s us I.kIn (by simpa using hl)
    simpa using this) r h) fun r s' hq => ?_)
  cases r with
  | error e => exact hx pins σ H s e s' I hq
  | ok fl =>
    cases fl with
    | ret u => exact I.after hq
    | next => exact False.elim hq
    | brk => exact False.elim hq
    | cont => exact False.elim hq
theorem room_in2 {j : Nat} {A : Around} (r : Room (j + 1) A) : Room j A.in1.in1 :=
  ⟨r.hd, by have := r.dp; show A.depth + 3 * j + 5 < _; omega, by have := r.un; show A.units + 1 + 1 + 16 * j + 200 < _; omega⟩
/-- what an own method is asked -/
def rOwn (G : GI) (P : Prog) (k : Nat) (c m f : String) (W : D → Sto → VK → Hp → Prop) : List V → Hp → VK → Prop := fun xs H Q => ∃ (p : Nat) (vs : List V) (ds : List D) (S : Sto) (fs : List (String × D)) (Q0 : QE), xs = .ref p :: vs ∧ RepVs G H ds vs ∧ RepS G S H ∧ S p = some (.ins c fs) ∧ wpCall P k (.mt c m) f (.ref p :: ds) S Q0 xN ∧ Cont G Q0 H Q
theorem ins_look {pins : List (Addr × Obj)} {s : Shared} {σ : L2.St} {H : Hp} {x C dx : Addr} {fs : List (Str × V)} (I : L2.Inv X pins σ H s) (h : H x = some (.ins C dx fs)) : ∃ (ox : Obj) (od : Option Obj), PySem.W.InstAt s.heap x ox C od := by
  obtain ⟨mA, J, _⟩ := ins_get I.hok h
  obtain ⟨od, J, _⟩ := J.look
  exact ⟨_, od, J⟩
theorem tyX_looks {pins : List (Addr × Obj)} {s : Shared} {σ : L2.St} {H : Hp} {y : V} {u : Value} {t : Value} (I : L2.Inv X pins σ H s) (r : RelV y u) (h : TyX X.K H y t) : PySem.W.Looks (model X.prog X.w) s.heap (typeOf u) t := by
  obtain ⟨P, Z, p, _⟩ := kit_of I r h
  exact Z.ty _ _ I.kIn p
theorem op_own (ok : Ok P cls k X) {c f : String} (hf : hasF P (.mt c "__eq__") f) : OpR X (compareOp .Eq) (fun x y H Q => ∃ (p : Nat) (d : D) (S : Sto) (fs : List (String × D)) (Q0 : QE), x = .ref p ∧ RepV ⟨X.K, cls⟩ H d y ∧ RepS ⟨X.K, cls⟩ S H ∧ S p = some (.ins c fs) ∧ eqOk P.fl c d S ∧ wpCall P k (.mt c "__eq__") f [.ref p, d] S (fun e S3 => ∃ r, e = .bl r ∧ Q0 (.bl r) S3) xN ∧ Cont ⟨X.K, cls⟩ Q0 H Q) := by
  intro pins s σ H x y v u Q I rx ry hq
  obtain ⟨p, d, S, fs, Q0, rfl, rd, rS, hp, ⟨hfl, hty⟩, hw, hc⟩ := hq
  cases rx
  obtain ⟨fd, e1, e2⟩ := hf
  have := ok.fns f fd e1
  rw [e2] at this
  obtain ⟨fa, fdd, ps, F, M, C, hb, _⟩ := this
  obtain ⟨dx, vs, h2, h3⟩ := (show ∃ dx vs, H _ = some (.ins (cls c) dx vs) ∧ RepF ⟨X.K, cls⟩ H fs vs from rS _ _ hp)
  obtain ⟨ox, od, J⟩ := ins_look I h2
  obtain ⟨m, hF⟩ := I.fr
  have hone := ok.clsF.one c hfl
  obtain ⟨t, ht, hn⟩ : ∃ t, TyX X.K H y t ∧ PySem.W.notFirst X.K (cls c) t = true := by
    cases e : tyOf d S with
    | none => rw [e] at hty; exact hty.elim
    | some t =>
      rw [e] at hty
      have htx := fun hk => tyOf_rep (G := ⟨X.K, cls⟩) ok.clsF (t := t) hk rS rd e
      cases t with
      | ty n =>
        have hty : tyN.contains n = true := hty
        refine ⟨_, htx (fun k z => by cases z), ?_⟩
        have h1 := hone.1 n (List.contains_iff_mem.mp hty)
        unfold PySem.W.notFirst
        unfold PySem.W.kitOne PySem.W.kitCls at h1
        have hne : (Value.type n == Value.ref (cls c)) = false := by simp
        simp only [hne, Bool.false_eq_true, if_false] at h1
        split at h1
        · rw [show (tv ⟨X.K, cls⟩ (.ty n)) = Value.type n from rfl]
          simp [h1]
        · cases h1
      | cl c' =>
        have hty : c' = c := hty
        subst hty
        refine ⟨_, htx (fun k z => by cases z; exact hfl), ?_⟩
        unfold PySem.W.notFirst
        rw [show (tv ⟨X.K, cls⟩ (.cl c')) = Value.ref (cls c') from rfl]
        simp
      | _ => exact hty.elim
  show wpAny (model X.prog X.w) X.A (richCompare .Eq (.ref p) u) (EP X pins σ Q) X.xe s
  refine PySem.W.cmp_K (op := .Eq) (tb := t) (by have := ok.room.un; omega) hF I.ok.mod.kin J (tyX_looks I ry ht) hn M.at_ M.fn ?_
  refine wpAny_mono (run_fnA (Q := fun z H' => ∃ r, z = .bl r ∧ Q (.bl r) H') rfl F (ok.room.mono (by omega)) hb pass0 I (vs := [.ref p, y]) (us := [.ref p, u]) (.cons rfl (.cons ry .nil)) ⟨[.ref p, d], S, _, .cons (.ref p) (.cons rd .nil), rS, hw, fun e S3 z H3 q3 t3 rS3 rV3 => ?_⟩) (fun w s' hq => ?_) fun _ _ z => z
  · obtain ⟨r, rfl, q3⟩ := q3
    cases rV3
    exact ⟨r, rfl, hc _ _ _ _ q3 t3 rS3 (.bl r)⟩
  · obtain ⟨z, H', I', rz, r, rfl, q⟩ := hq
    cases rz
    exact ⟨.bl r, H', I', rfl, q⟩
theorem call_lenO (ok : Ok P cls k X) {c f : String} (hf : hasF P (.mt c "__len__") f) : CallR X (.builtin "len") (fun xs H Q => ∃ (p : Nat) (S : Sto) (fs : List (String × D)) (Q0 : QE), xs = [.ref p] ∧ RepS ⟨X.K, cls⟩ S H ∧ S p = some (.ins c fs) ∧ wpCall P k (.mt c "__len__") f [.ref p] S (fun e S3 => ∃ n : Nat, n < 2 ^ 62 ∧ e = .int (n : Nat) ∧ Q0 e S3) xN ∧ Cont ⟨X.K, cls⟩ Q0 H Q) := by
  intro pins s σ H xs us Q I r hq
  obtain ⟨p, S, fs, Q0, rfl, rS, hp, hw, hc⟩ := hq
  obtain ⟨u, rfl, rx⟩ := r.one
  cases rx
  obtain ⟨fd, e1, e2⟩ := hf
  have := ok.fns f fd e1
  rw [e2] at this
  obtain ⟨fa, fdd, ps, F, M, C, hb, _⟩ := this
  obtain ⟨dx, vs, h2, h3⟩ := (show ∃ dx vs, H _ = some (.ins (cls c) dx vs) ∧ RepF ⟨X.K, cls⟩ H fs vs from rS _ _ hp)
  obtain ⟨ox, od, J⟩ := ins_look I h2
  obtain ⟨m, hF⟩ := I.fr
  refine PySem.W.len_K hF I.ok.mod.kin J M.at_ M.fn ?_
  refine wpAny_mono (run_fnA (A := X.A.in1) (Q := fun z H' => ∃ n : Nat, n < 2 ^ 62 ∧ z = .int (n : Nat) ∧ Q z H') rfl F ok.room.in1 hb pass0 I (vs := [.ref p]) (us := [.ref p]) (.cons rfl .nil) ⟨[.ref p], S, _, .cons (.ref p) .nil, rS, hw, fun e S3 z H3 q3 t3 rS3 rV3 => ?_⟩) (fun w s' hq => ?_) fun _ _ z => z
  · obtain ⟨n, hn, rfl, q3⟩ := q3
    cases rV3
    exact ⟨n, hn, rfl, hc _ _ _ _ q3 t3 rS3 (.int _)⟩
  · obtain ⟨z, H', I', rz, n, hn, rfl, q⟩ := hq
    obtain ⟨t, rfl⟩ := rz
    exact ⟨⟨by omega, by omega⟩, .int (n : Nat), H', I'.tok _, ⟨_, rfl⟩, q⟩
theorem call_strO (ok : Ok P cls k X) {c f : String} (hf : hasF P (.mt c "__str__") f) : CallR X (.type "str") (fun xs H Q => ∃ (p : Nat) (S : Sto) (fs : List (String × D)) (Q0 : QE), xs = [.ref p] ∧ RepS ⟨X.K, cls⟩ S H ∧ S p = some (.ins c fs) ∧ wpCall P k (.mt c "__str__") f [.ref p] S (fun e S3 => ∃ y : Str, e = .str y ∧ Q0 e S3) xN ∧ Cont ⟨X.K, cls⟩ Q0 H Q) := by
  intro pins s σ H xs us Q I r hq
  obtain ⟨p, S, fs, Q0, rfl, rS, hp, hw, hc⟩ := hq
  obtain ⟨u, rfl, rx⟩ := r.one
  cases rx
  obtain ⟨fd, e1, e2⟩ := hf
  have := ok.fns f fd e1
  rw [e2] at this
  obtain ⟨fa, fdd, ps, F, M, C, hb, _⟩ := this
  obtain ⟨dx, vs, h2, h3⟩ := (show ∃ dx vs, H _ = some (.ins (cls c) dx vs) ∧ RepF ⟨X.K, cls⟩ H fs vs from rS _ _ hp)
  obtain ⟨ox, od, J⟩ := ins_look I h2
  refine PySem.W.kso_call (by have := ok.room.un; show X.A.units + 1 + 1 < _; omega) I.kIn J M.at_ M.fn ?_
  refine wpAny_mono (run_fnA (A := X.A.in1.in1) (Q := fun z H' => ∃ y : Str, z = .str y ∧ Q z H') rfl F (room_in2 ok.room) hb pass0 I (vs := [.ref p]) (us := [.ref p]) (.cons rfl .nil) ⟨[.ref p], S, _, .cons (.ref p) .nil, rS, hw, fun e S3 z H3 q3 t3 rS3 rV3 => ?_⟩) (fun w s' hq => ?_) fun _ _ z => z
  · obtain ⟨n, rfl, q3⟩ := q3
    cases rV3
    exact ⟨n, rfl, hc _ _ _ _ q3 t3 rS3 (.str _)⟩
  · obtain ⟨z, H', I', rz, n, rfl, q⟩ := hq
    obtain ⟨t, rfl⟩ := rz
    exact ⟨.str n, H', I', ⟨_, rfl⟩, q⟩
theorem bl_of (ok : Ok P cls k X) {n : String} (h : n ∈ bNames) : X.mg (Str.ofString n) = none := ok.bl n h
theorem own_red {c m f : String} {call : Wh → String → List D → Sto → QE → XE → Prop} {u : D} {vs : List D} {S : Sto} {Q : QE} {x : XE} (h : ownM call c m f u vs S Q x) : ∃ p fs, u = .ref p ∧ S p = some (.ins c fs) ∧ call (.mt c m) f (.ref p :: vs) S Q x := by
  unfold ownM at h
  split at h
  · split at h
    · rename_i p _ c' fs hp
      obtain ⟨rfl, h⟩ := h
      exact ⟨_, _, rfl, hp, h⟩
    · exact h.elim
  · exact h.elim
theorem sE_ceq (ok : Ok P cls k X) {c f : String} (hs : noSet b = true) (ha : PE X a (LE X cls ma)) (hb : PE X b (LE X cls mb)) : PE X (.Compare a [.Eq] [b] pos) (LE X cls fun σ S Q => hasF P (.mt c "__eq__") f ∧ ma σ S fun u S1 => mb σ S1 fun v S2 => eqOk P.fl c v S2 ∧ ownM (wpCall P k) c "__eq__" f u [v] S2 (fun d S3 => ∃ r, d = .bl r ∧ Q (.bl r) S3) xN) := by
  by_cases hf : hasF P (.mt c "__eq__") f
  · refine (pe_cmpR (op_own ok hf) ha hb (marks_of hs)).le fun τ H Q ⟨σ, S, Q0, rE, rS, h, cc⟩ => ⟨σ, S, _, rE, rS, h.2, fun u S1 x H1 q1 t1 rS1 rV1 => ⟨σ, S1, _, rE.mono t1, rS1, q1, fun v S2 y H2 q2 t2 rS2 rV2 => ?_⟩⟩
    obtain ⟨he, q2⟩ := q2
    obtain ⟨p, fs, rfl, hp, q2⟩ := own_red q2
    cases rV1
    exact ⟨p, v, S2, fs, Q0, rfl, rV2, rS2, hp, he, q2, cc.go (t1.trans t2)⟩
  · exact nf_false hf
theorem sT_ceq (ok : Ok P cls k X) {c f : String} (hs : noSet b = true) (ha : PE X a (LE X cls ma)) (hb : PE X b (LE X cls mb)) : PT X (.Compare a [.Eq] [b] pos) (LT X cls fun σ S Q => hasF P (.mt c "__eq__") f ∧ ma σ S fun u S1 => mb σ S1 fun v S2 => eqOk P.fl c v S2 ∧ ownM (wpCall P k) c "__eq__" f u [v] S2 (fun d S3 => ∃ r, d = .bl r ∧ Q r S3) xN) := by
  by_cases hf : hasF P (.mt c "__eq__") f
  · refine (pt_cmpR (op_own ok hf) ha hb (marks_of hs)).le fun τ H Q ⟨σ, S, Q0, rE, rS, h, cc⟩ => ⟨σ, S, _, rE, rS, h.2, fun u S1 x H1 q1 t1 rS1 rV1 => ⟨σ, S1, _, rE.mono t1, rS1, q1, fun v S2 y H2 q2 t2 rS2 rV2 => ?_⟩⟩
    obtain ⟨he, q2⟩ := q2
    obtain ⟨p, fs, rfl, hp, q2⟩ := own_red q2
    cases rV1
    have eq : (fun (d : D) (S3 : Sto) => ∃ r, d = .bl r ∧ Q0 r S3) = (fun (e : D) (S3 : Sto) => ∃ r, e = .bl r ∧ (fun (d : D) (S3 : Sto) => ∃ r, d = .bl r ∧ Q0 r S3) (.bl r) S3) := by
      funext d S3
      exact propext ⟨fun ⟨r, e, q⟩ => ⟨r, e, r, rfl, q⟩, fun ⟨r, e, r', e', q⟩ => ⟨r', e.trans e', q⟩⟩
    rw [eq] at q2
    refine ⟨p, v, S2, fs, fun d S3 => ∃ r, d = .bl r ∧ Q0 r S3, rfl, rV2, rS2, hp, he, q2, fun d S3 w H3 q3 t3 rS3 rV3 => ?_⟩
    obtain ⟨r, rfl, q3⟩ := q3
    cases rV3
    exact ⟨r, rfl, cc _ _ _ q3 ((t1.trans t2).trans t3) rS3⟩
  · exact ⟨fun _ _ _ _ _ _ ⟨_, _, _, _, _, q, _⟩ => (hf q.1).elim⟩
theorem sE_clen (ok : Ok P cls k X) {c f : String} {p : Pos} (h1 : isGl X.env.scope ("len" : Str) = true) (hs : noStar a = true) (ha : PE X a (LE X cls ma)) : PE X (.Call (.Name ("len" : Str) p) [a] [] pos) (LE X cls fun σ S Q => hasF P (.mt c "__len__") f ∧ ma σ S fun u S1 => ownM (wpCall P k) c "__len__" f u [] S1 (fun d S3 => ∃ n : Nat, n < 2 ^ 62 ∧ d = .int (n : Nat) ∧ Q d S3) xN) := by
  by_cases hf : hasF P (.mt c "__len__") f
  · refine (pe_callB (call_lenO ok hf) (gl_of h1) (ok.bl "len" (by decide)) (by decide +kernel) (pa_cons ha pa_nil (star_cons hs)) (by decide) (by decide) (star_cons hs) rfl).le fun τ H Q ⟨σ, S, Q0, rE, rS, h, cc⟩ => ⟨σ, S, _, rE, rS, h.2, fun u S1 x H1 q1 t1 rS1 rV1 => ?_⟩
    obtain ⟨p, fs, rfl, hp, q1⟩ := own_red q1
    cases rV1
    exact ⟨p, S1, fs, Q0, rfl, rS1, hp, q1, cc.go t1⟩
  · exact nf_false hf
theorem sE_cstr (ok : Ok P cls k X) {c f : String} {p : Pos} (h1 : isGl X.env.scope ("str" : Str) = true) (hs : noStar a = true) (ha : PE X a (LE X cls ma)) : PE X (.Call (.Name ("str" : Str) p) [a] [] pos) (LE X cls fun σ S Q => hasF P (.mt c "__str__") f ∧ ma σ S fun u S1 => ownM (wpCall P k) c "__str__" f u [] S1 (fun d S3 => ∃ y, d = .str y ∧ Q d S3) xN) := by
  by_cases hf : hasF P (.mt c "__str__") f
  · refine (pe_callTy (call_strO ok hf) (gl_of h1) (ok.bl "str" (by decide)) (by decide +kernel) (pa_cons ha pa_nil (star_cons hs)) (by decide) (by decide) (star_cons hs) rfl).le fun τ H Q ⟨σ, S, Q0, rE, rS, h, cc⟩ => ⟨σ, S, _, rE, rS, h.2, fun u S1 x H1 q1 t1 rS1 rV1 => ?_⟩
    obtain ⟨p, fs, rfl, hp, q1⟩ := own_red q1
    cases rV1
    exact ⟨p, S1, fs, Q0, rfl, rS1, hp, q1, cc.go t1⟩
  · exact nf_false hf
theorem sE_fmt (ha : PE X a (LE X cls ma)) : PE X (.FormattedValue a (-1) none pos) (LE X cls fun σ S Q => ma σ S fun u S1 => fmtM u S1 Q) :=
  (pe_fmt ha).le fun τ H Q ⟨σ, S, Q0, rE, rS, h, cc⟩ => ⟨σ, S, _, rE, rS, h, fun u S1 x H1 q1 t1 rS1 rV1 => by
    unfold fmtM at q1
    split at q1
    · cases rV1
      exact .inl ⟨_, rfl, q1.1, cc _ _ _ _ q1.2 t1 rS1 (.str _)⟩
    · cases rV1
      exact .inr ⟨_, rfl, q1.1, cc _ _ _ _ q1.2 t1 rS1 (.str _)⟩
    · exact q1.elim⟩
/-- the texts of an f-string -/
structure JR (X : L2.Cx) (cls : String → Addr) (es : List Expr) (m : Str → Env → Sto → (Str → Sto → Prop) → Prop) : Prop where
  j : ∃ ts, PJ X es ts ∧ ∀ (acc : Str) (τ : L2.St) (H : Hp) (Q : Str → Hp → Prop) (σ : Env) (S : Sto) (Q0 : Str → Sto → Prop), RepE ⟨X.K, cls⟩ X.N.length H σ τ → RepS ⟨X.K, cls⟩ S H → m acc σ S Q0 → (∀ y S' H', Q0 y S' → TExt H H' → RepS ⟨X.K, cls⟩ S' H' → Q y H') → tJs ts acc τ H Q
theorem jr_nil : JR X cls [] (fun acc _ S Q => Q acc S) := ⟨[], .nil, fun acc τ H Q σ S Q0 rE rS h c => c acc S H h (TExt.refl _) rS⟩
theorem jr_cons {m : Str → Env → Sto → (Str → Sto → Prop) → Prop} (ha : PE X a (LE X cls ma)) (hr : JR X cls es m) : JR X cls (a :: es) (fun acc σ S Q => ma σ S fun d S1 => match d with
    | .str y => (acc ++ y).length ≤ sizeLine ∧ m (acc ++ y) σ S1 Q
    | _ => False) := by
  obtain ⟨ts, hj, hc⟩ := hr.j
  refine ⟨_ :: ts, .cons ha hj, fun acc τ H Q σ S Q0 rE rS h c => ⟨σ, S, _, rE, rS, h, fun u S1 x H1 q1 t1 rS1 rV1 => ?_⟩⟩
  split at q1
  · cases rV1
    exact ⟨_, rfl, q1.1, hc _ _ _ _ _ _ _ (rE.mono t1) rS1 q1.2 fun y S' H' q t r => c y S' H' q (t1.trans t) r⟩
  · exact q1.elim
theorem sE_fst {m : Str → Env → Sto → (Str → Sto → Prop) → Prop} (h : JR X cls (a :: b :: es) m) : PE X (.JoinedStr (a :: b :: es) pos) (LE X cls fun σ S Q => m Str.empty σ S fun y S1 => Q (.str y) S1) := by
  obtain ⟨ts, hj, hc⟩ := h.j
  exact (pe_joined hj).le fun τ H Q ⟨σ, S, Q0, rE, rS, h, cc⟩ => hc _ _ _ _ _ _ _ rE rS h fun y S' H' q t r => cc _ _ _ _ q t r (.str y)
theorem sE_cak (ok : Ok P cls k X) {f z : String} {p kp : Pos} {w : Expr} {L : Nat} (h1 : isGl X.env.scope (Str.ofString f) = true) (h2 : okName (Str.ofString f) = true) (hs : ((a :: es).all noStar) = true) (ha : PA X (a :: es) (LA X cls L mr)) (hw : PE X w (LE X cls ma)) :
    PE X (.Call (.Name (Str.ofString f) p) (a :: es) [⟨some (Str.ofString z), w, kp⟩] pos) (LE X cls fun σ S Q => (hasF P .pl f ∧ P.kw f = some z) ∧ mr σ S fun ds S1 => ma σ S1 fun d S2 => wpCall P k .pl f (ds ++ [d]) S2 Q xN) := by
  obtain ⟨n1, n2, n3⟩ := okName_of h2
  by_cases hf : hasF P .pl f ∧ P.kw f = some z
  · obtain ⟨⟨fd, e1, e2⟩, hkw⟩ := hf
    have := ok.fnk f z hkw fd e1
    rw [e2] at this
    obtain ⟨fa, fdd, ps, n, F, hm, hk, hl, hb⟩ := this
    simp only [List.all_cons, Bool.and_eq_true] at hs
    refine (pe_callN F (ok.room.mono (by omega)) (gl_of h1) hm hk hb pass0 ha (pk_cons hw pk_nil) rfl rfl n1 (star_cons hs.1) (by
      have := (back_plain (pos := pos) (env := X.env) (vs := a :: es) (by simp only [List.all_cons, Bool.and_eq_true]; exact hs)).1
      rw [this]; rfl)).le fun τ H Q ⟨σ, S, Q0, rE, rS, h, c⟩ =>
      lift_args rE rS h.2 fun ds S1 vs H1 q1 t1 rS1 rV1 hll => ⟨σ, S1, _, rE.mono t1, rS1, q1, fun d S2 x H2 q2 t2 rS2 rV2 => ?_⟩
    have hlen : (ds ++ [d]).length = ps.length := by
      have := F.len (vs ++ [x]) H2 Q E0 ⟨ds ++ [d], S2, Q0, RepVs.app (rV1.mono t2) (.cons rV2 .nil), rS2, q2, c.go (t1.trans t2)⟩
      rw [← this, List.length_append, List.length_append, (rV1.length : ds.length = vs.length)]; rfl
    refine ⟨?_, rfl, ds ++ [d], S2, Q0, RepVs.app (rV1.mono t2) (.cons rV2 .nil), rS2, q2, c.go (t1.trans t2)⟩
    rw [List.length_append, hl] at hlen
    have : ds.length = n := by simpa using hlen
    rw [← rV1.length]; exact this
  · exact nf_false hf
/-- o.m(z = e) -/
theorem pe_methK {pl : Sem Bool} {CX : CXT} {j n : Nat} {C f : Addr} {fd : FuncData} {ps ks : List Str} {sp : Sp} {E : XK} {o : Expr} {m : Str} {apos : Pos} {kws : List Keyword} {ta : TE} {tk : TA} {g : List Value → List Value → List Value} {gV : List V → List V → List V} (he : PE X o ta) (c : Cls X.K C) (hm : Meth X.K C m f) (F : FnOk X.prog X.w X.K X.mg X.base CX j f fd ps sp) (hr : Room j X.A) (hb : KBn X.K fd ps n ks g gV) (hx : Passes CX X E) (hkw : PK X kws tk)
    (hall : (backToKw pos (keywordEach kws X.env)).all (·.1.isSome) = true) (hks : (backToKw pos (keywordEach kws X.env)).filterMap (·.1) = ks) (hpl : ((backTo pos (starEach [] X.env)).any (·.1) || (backToKw pos (keywordEach kws X.env)).any (·.1.isNone)) = false)
    (ht : eval (.Call (.Attribute o m apos) [] kws pos) X.env = (do
      let ov ← eval o X.env
      standAt apos.atName
      let (f, first) ← holding [ov] (getMethod ov m pl)
      callWith pos f first (backTo pos (starEach [] X.env)) (backToKw pos (keywordEach kws X.env)))) :
    PE X (.Call (.Attribute o m apos) [] kws pos) (fun σ H Q => ta σ H fun x H1 => ∃ a dx fs, x = .ref a ∧ H1 a = some (.ins C dx fs) ∧ fs.lookup m = none ∧ tk σ H1 fun zs H2 => n = 1 ∧ zs.length = ks.length ∧ sp (gV [.ref a] zs) H2 Q E) := by
  refine ⟨fun pins s σ H Q I h => ?_⟩
  refine PySem.W.methodCall_KW (pl := pl) (thn (he.run pins s σ H _ I h) fun u s1 ⟨x, H1, I1, rx, a, dx, fs, ex, ea, l, q⟩ => ?_) ht
  subst ex
  obtain rfl : u = Value.ref a := rx
  refine getmeth_ok I1 ea c hm l ?_
  refine PySem.W.callWith_KW0 (first := [.ref a]) (h₀ := X.base) I1.ok.mod.kin hm.kp hall (thn (hkw.run pos pins s1 σ H1 _ I1 q) fun ws s2 ⟨zs, H2, I2, rz, l1, l2, q2⟩ => ⟨I2.kIn, ?_⟩) hpl
  rw [hks]
  exact run_fnN (us := [.ref a]) (vs := [.ref a]) F hr hb hx I2 (.cons rfl .nil) rz (by rw [l1]; rfl) l2 q2
theorem meth_treeK {o w : Expr} {m n : Str} {apos kp : Pos} {env : PySem.Env} (h1 : noCall0 o = true) (hp : (apos.endLine == pos.line) = true) : eval (.Call (.Attribute o m apos) [] [⟨some n, w, kp⟩] pos) env = (do
      let ov ← eval o env
      standAt apos.atName
      let (f, first) ← holding [ov] (getMethod ov m (do return (← importBound o env).getD true))
      callWith pos f first (backTo pos (starEach [] env)) (backToKw pos (keywordEach [⟨some n, w, kp⟩] env))) := by
  show (do
    let ov ← attributeBase o m env (eval o env)
    standAt apos.atName
    methodCall o m apos pos env ov (([] : List Expr).length + ([⟨some n, w, kp⟩] : List Keyword).length) (backTo pos (starEach [] env)) (backToKw pos (keywordEach [⟨some n, w, kp⟩] env))) = _
  rw [attrBase_of h1]
  congr; funext ov; congr; funext _
  unfold methodCall
  rw [show methodCallForm (([] : List Expr).length + ([⟨some n, w, kp⟩] : List Keyword).length) (backTo pos (starEach [] env)) (backToKw pos (keywordEach [⟨some n, w, kp⟩] env)) = true from rfl]
  unfold methodCallPos calleeOf
  rw [hp]
  rfl
theorem sE_mek (ok : Ok P cls k X) {cn m f z : String} {apos kp : Pos} {w : Expr} (h1 : noCall0 a = true) (hp : (apos.endLine == pos.line) = true) (ha : PE X a (LE X cls ma)) (hw : PE X w (LE X cls mb)) :
    PE X (.Call (.Attribute a (Str.ofString m) apos) [] [⟨some (Str.ofString z), w, kp⟩] pos) (LE X cls fun σ S Q => (hasF P (.mt cn m) f ∧ P.kw f = some z) ∧ ma σ S fun u S1 => match u with
      | .ref p => (match S1 p with
        | some (.ins c' fs) => c' = cn ∧ fs.lookup m = none ∧ mb σ S1 fun d S2 => wpCall P k (.mt cn m) f [.ref p, d] S2 Q xN
        | _ => False)
      | _ => False) := by
  by_cases hf : hasF P (.mt cn m) f ∧ P.kw f = some z
  · obtain ⟨⟨fd, e1, e2⟩, hkw⟩ := hf
    have := ok.fnk f z hkw fd e1
    rw [e2] at this
    obtain ⟨fa, fdd, ps, n, F, M, C, hl, hb⟩ := this
    refine (pe_methK ha C M F (ok.room.mono (by omega)) hb pass0 (pk_cons hw pk_nil) rfl rfl rfl (meth_treeK h1 hp)).le fun τ H Q ⟨σ, S, Q0, rE, rS, h, c⟩ => ⟨σ, S, _, rE, rS, h.2, fun u S1 x H1 q1 t1 rS1 rV1 => ?_⟩
    split at q1
    · cases rV1
      split at q1
      · rename_i c' fs hS
        obtain ⟨rfl, hl2, q1⟩ := q1
        obtain ⟨dx, vs, h2, h3⟩ := (show ∃ dx vs, H1 _ = some (.ins (cls c') dx vs) ∧ RepF ⟨X.K, cls⟩ H1 fs vs from rS1 _ _ hS)
        refine ⟨_, dx, vs, rfl, h2, h3.none hl2, σ, S1, _, rE.mono t1, rS1, q1, fun d S2 y H2 q2 t2 rS2 rV2 => ?_⟩
        have hlen := F.len [.ref _, y] H2 Q E0 ⟨[.ref _, d], S2, Q0, .cons (.ref _) (.cons rV2 .nil), rS2, q2, c.go (t1.trans t2)⟩
        rw [hl] at hlen
        exact ⟨by simpa using hlen.symm, rfl, [.ref _, d], S2, Q0, .cons (.ref _) (.cons rV2 .nil), rS2, q2, c.go (t1.trans t2)⟩
      · exact q1.elim
    · exact q1.elim
  · exact nf_false hf
end
end Lr

set_option Elab.async false
set_option linter.all false
set_option maxRecDepth 100000
set_option maxHeartbeats 4000000
/-! part 8: targets, what is walked, list comprehensions -/
namespace Lr
open PySem PySem.Spec PyProof.Rows L2
variable {P : Prog} {cls : String → Addr} {k : Nat} {X : L2.Cx}
/-! ### slots that a target touches -/
def Sl (sl : List Nat) (τ τ' : L2.St) : Prop := τ'.length = τ.length ∧ ∀ i, i ∉ sl → τ'[i]? = τ[i]?
theorem Sl.refl (sl : List Nat) (τ : L2.St) : Sl sl τ τ := ⟨rfl, fun _ _ => rfl⟩
theorem Sl.trans {a b : List Nat} {τ τ' τ'' : L2.St} (h : Sl a τ τ') (h' : Sl b τ' τ'') : Sl (a ++ b) τ τ'' :=
  ⟨h'.1.trans h.1, fun i hi => (h'.2 i fun z => hi (List.mem_append_right _ z)).trans (h.2 i fun z => hi (List.mem_append_left _ z))⟩
theorem wipe_in {τ : L2.St} {i : Nat} : ∀ {vs : List Nat}, i ∈ vs → (wipe τ vs)[i]? = if i < τ.length then some none else none
  | v :: vs, h => by
    show ((wipe τ vs).set v none)[i]? = _
    by_cases e : v = i
    · subst e
      rw [List.getElem?_set, if_pos rfl, wipe_length]
    · rw [List.getElem?_set_ne e]
      exact wipe_in ((List.mem_cons.mp h).resolve_left fun z => e z.symm)
theorem Sl.wipe {sl vs : List Nat} {τ τ' : L2.St} (h : Sl sl τ τ') (s : ∀ i ∈ sl, i ∈ vs) : wipe τ' vs = wipe τ vs := by
  apply List.ext_getElem?
  intro i
  by_cases m : i ∈ vs
  · rw [wipe_in m, wipe_in m, h.1]
  · rw [wipe_out m, wipe_out m]
    exact h.2 i fun z => m (s i z)
def liftG (G : GI) (n : Nat) (sl : List Nat) (m : D → Env → Sto → QS → Prop) : TG := fun x τ H Q => ∃ d σ S Q0, RepE G n H σ τ ∧ RepS G S H ∧ RepV G H d x ∧ m d σ S Q0 ∧
  ∀ σ' S' τ' H', Q0 σ' S' → TExt H H' → RepS G S' H' → RepE G n H' σ' τ' → Sl sl τ τ' → Q τ' H'
def liftGs (G : GI) (n : Nat) (sl : List Nat) (m : List D → Env → Sto → QS → Prop) : TGs := fun x τ H Q => ∃ d σ S Q0, RepE G n H σ τ ∧ RepS G S H ∧ RepVs G H d x ∧ m d σ S Q0 ∧
  ∀ σ' S' τ' H', Q0 σ' S' → TExt H H' → RepS G S' H' → RepE G n H' σ' τ' → Sl sl τ τ' → Q τ' H'
abbrev LG (X : L2.Cx) (cls : String → Addr) (sl : List Nat) (m : D → Env → Sto → QS → Prop) : TG := liftG ⟨X.K, cls⟩ X.N.length sl m
abbrev LGs (X : L2.Cx) (cls : String → Addr) (sl : List Nat) (m : List D → Env → Sto → QS → Prop) : TGs := liftGs ⟨X.K, cls⟩ X.N.length sl m
theorem PG_le {e : Expr} {t t' : TG} (h : PG X e t) (l : ∀ v σ H Q, t' v σ H Q → t v σ H Q) : PG X e t' := ⟨fun pins s σ H v u Q I r q => h.run pins s σ H v u Q I r (l v σ H Q q)⟩
theorem PGs_le {e : List Expr} {t t' : TGs} (h : PGs X e t) (l : ∀ v σ H Q, t' v σ H Q → t v σ H Q) : PGs X e t' := ⟨fun pins s σ H v u Q I r q => h.run pins s σ H v u Q I r (l v σ H Q q)⟩
theorem PG_or {e : Expr} {t t' : TG} (h : PG X e t) (h' : PG X e t') : PG X e (fun v σ H Q => t v σ H Q ∨ t' v σ H Q) := ⟨fun pins s σ H v u Q I r q => q.elim (h.run pins s σ H v u Q I r) (h'.run pins s σ H v u Q I r)⟩
section
variable {e a b : Expr} {es : List Expr} {pos : Pos} {ma mb : Env → Sto → QE → Prop}
theorem sG_nm {i : Nat} {x : Str} (hN : X.N.Nodup) (hi : X.N[i]? = some x) (hx : Loc X.env.scope x) (hf : X.fn x = true ∨ X.env.scope.names.lookup x = some .local) : PG X (.Name x pos) (LG X cls [i] fun d σ S Q => Q (σ.set i (some d)) S) :=
  PG_le (pg_name hN hi hx hf) fun v τ H Q ⟨d, σ, S, Q0, rE, rS, rV, h, c⟩ => by
    have hlt : i < X.N.length := by
      rcases Nat.lt_or_ge i X.N.length with z | z
      · exact z
      · rw [List.getElem?_eq_none z] at hi; cases hi
    refine c _ _ _ _ h (TExt.refl H) rS (rE.set rV i hlt) ⟨List.length_set .., fun j hj => ?_⟩
    rw [List.getElem?_set_ne (fun z => hj (by rw [z]; exact List.mem_singleton.mpr rfl))]
theorem sGs_nil : PGs X [] (LGs X cls [] fun ds σ S Q => ds = [] ∧ Q σ S) := PGs_le pgs_nil fun v τ H Q ⟨d, σ, S, Q0, rE, rS, rV, h, c⟩ => by
  obtain ⟨rfl, h⟩ := h
  cases rV
  exact ⟨rfl, c _ _ _ _ h (TExt.refl H) rS rE (Sl.refl _ _)⟩
theorem sGs_cons {sa sb : List Nat} {m : D → Env → Sto → QS → Prop} {mr : List D → Env → Sto → QS → Prop} (hs : noStar a = true) (ha : PG X a (LG X cls sa m)) (hr : PGs X es (LGs X cls sb mr)) : PGs X (a :: es) (LGs X cls (sa ++ sb) fun ds σ S Q => match ds with
    | d :: ds => m d σ S fun σ1 S1 => mr ds σ1 S1 Q
    | [] => False) :=
  PGs_le (pgs_cons ha hr (by rw [assign_cons hs]; rfl)) fun v τ H Q ⟨d, σ, S, Q0, rE, rS, rV, h, c⟩ => by
    cases rV with
    | nil => exact h.elim
    | cons r1 r2 =>
      refine ⟨_, _, rfl, _, σ, S, _, rE, rS, r1, h, fun σ1 S1 τ1 H1 q1 t1 rS1 rE1 s1 => ?_⟩
      exact ⟨_, σ1, S1, Q0, rE1, rS1, r2.mono t1, q1, fun σ2 S2 τ2 H2 q2 t2 rS2 rE2 s2 => c _ _ _ _ q2 (t1.trans t2) rS2 rE2 (s1.trans s2)⟩
theorem assign_all {env : PySem.Env} : ∀ {vs : List Expr}, vs.all noStar = true → (assignEach vs env).length = vs.length ∧ (assignEach vs env).findIdx? (·.1) = none
  | [], _ => ⟨rfl, rfl⟩
  | v :: vs, h => by
    simp only [List.all_cons, Bool.and_eq_true] at h
    obtain ⟨h1, h2⟩ := assign_all (env := env) h.2
    rw [assign_cons h.1]
    refine ⟨by rw [List.length_cons, List.length_cons, h1], ?_⟩
    rw [List.findIdx?_cons, h2]; rfl
theorem sG_tp {n kk : Nat} {sl : List Nat} {m : List D → Env → Sto → QS → Prop} (hc : X.calm = true) (hs : es.all noStar = true) (hn : es.length = n) (h : PGs X es (LGs X cls sl m)) : PG X (.Tuple es kk pos) (LG X cls sl fun d σ S Q => tpM d S fun ds => ds.length = n ∧ m ds σ S Q) := by
  obtain ⟨a1, a2⟩ := assign_all (env := X.env) hs
  refine PG_le (PG_or (pg_tup hc h (a1.trans hn) a2) (pg_lst hc h (a1.trans hn) a2)) fun v τ H Q ⟨d, σ, S, Q0, rE, rS, rV, h, c⟩ => ?_
  have fin : ∀ ds, (d = .tup ds ∨ d = .kt ds ∨ d = .key ds) → ds.length = n ∧ m ds σ S Q0 → gTup X.K n (LGs X cls sl m) v τ H Q ∨ gLst X.K n (LGs X cls sl m) v τ H Q := fun ds hd h => by
    obtain ⟨p, vs, h1, h2, h3⟩ := rV.seqT hd
    exact .inl ⟨p, vs, h1, h2, by rw [← h3.length]; exact h.1, ds, σ, S, Q0, rE, rS, h3, h.2, c⟩
  dsimp only at h
  unfold tpM at h
  split at h
  · exact fin _ (.inl rfl) h
  · exact fin _ (.inr (.inr rfl)) h
  · exact fin _ (.inr (.inl rfl)) h
  · split at h
    · rename_i e
      cases rV
      obtain ⟨vs, h1, h2⟩ := rS.isL (.inl e)
      exact .inr ⟨_, vs, rfl, h1, by rw [← h2.length]; exact h.1, _, σ, S, Q0, rE, rS, h2, h.2, c⟩
    · exact h.elim
  · exact h.elim
theorem assign_sub {o i : Expr} {env : PySem.Env} (h : noSlice i = true) (v : Value) : assign (.Subscript o i pos) env v = (do
      let ov ← holding [v] (eval o env)
      let iv ← holding [v, ov] (eval i env)
      standAt pos
      holding [v, ov, iv] (setItem ov iv v)
      release [v, ov, iv] []) := by
  cases i <;> first | rfl | exact absurd h Bool.false_ne_true
theorem sG_ix (ok : Ok P cls k X) (hs : noSlice b = true) (ha : PE X a (LE X cls ma)) (hb : PE X b (LE X cls mb)) : PG X (.Subscript a b pos) (LG X cls [] fun d σ S Q => ma σ S fun u S1 => mb σ S1 fun v S2 => putM u v d S2 fun S3 => Q σ S3) :=
  PG_le (pg_sub ha hb (op_put (G := ⟨X.K, cls⟩) (by have := ok.hu; omega)) (assign_sub hs)) fun v τ H Q ⟨d, σ, S, Q0, rE, rS, rV, h, c⟩ => by
    refine ⟨σ, S, _, rE, rS, h, fun u S1 x H1 q1 t1 rS1 rV1 => ?_⟩
    refine ⟨σ, S1, _, rE.mono t1, rS1, q1, fun w S2 y H2 q2 t2 rS2 rV2 => ?_⟩
    exact ⟨u, w, d, S2, _, rV1.mono t2, rV2, (rV.mono t1).mono t2, rS2, q2, fun S3 H3 q3 t3 rS3 => c _ _ _ _ q3 ((t1.trans t2).trans t3) rS3 (((rE.mono t1).mono t2).mono t3) (Sl.refl _ _)⟩
end
/-! ### what is walked -/
structure Wk (G : GI) (J : It) (ds : List D) (chk : Sto → Prop) (H1 : Hp) : Prop where
  go : ∀ i H S d, TExt H1 H → RepS G S H → chk S → ds[i]? = some d → J.go i H
  yld : ∀ i H S d x H', TExt H1 H → RepS G S H → chk S → ds[i]? = some d → J.yld i H x H' → TExt H H' ∧ RepS G S H' ∧ RepV G H' d x
  stop : ∀ i H S, TExt H1 H → RepS G S H → chk S → i = ds.length → J.stop i H
def liftI (G : GI) (n : Nat) (m : Env → Sto → (List D → (Sto → Prop) → Sto → Prop) → Prop) : TI := fun τ H R => ∃ σ S Q0, RepE G n H σ τ ∧ RepS G S H ∧ m σ S Q0 ∧
  ∀ ds chk S' H' J, Q0 ds chk S' → TExt H H' → RepS G S' H' → Wk G J ds chk H' → R J H'
abbrev LI (X : L2.Cx) (cls : String → Addr) (m : Env → Sto → (List D → (Sto → Prop) → Sto → Prop) → Prop) : TI := liftI ⟨X.K, cls⟩ X.N.length m
theorem PI_le {tg e : Expr} {t t' : TI} (h : PI X tg e t) (l : ∀ σ H R, t' σ H R → t σ H R) : PI X tg e t' := ⟨fun pins s σ H R I q => h.run pins s σ H R I (l σ H R q)⟩
theorem PI_false {tg e : Expr} {m : Env → Sto → (List D → (Sto → Prop) → Sto → Prop) → Prop} (h : ∀ σ S Q, ¬ m σ S Q) : PI X tg e (LI X cls m) := ⟨fun _ _ _ _ _ _ ⟨_, _, _, _, _, q, _⟩ => (h _ _ _ q).elim⟩
/-- a list, a tuple, a text -/
def iSeq (K : PySem.W.Frag) (te : TE) : TI := fun σ H R => te σ H fun x H1 => (∃ a, x = .ref a ∧ (∃ xs, SqL K H1 a xs) ∧ R (Itl K a) H1) ∨ (∃ a, x = .ref a ∧ (∃ xs, SqT K H1 a xs) ∧ R (Itt K a) H1) ∨ (∃ z, x = .str z ∧ R (Its z) H1)
theorem pi_seq {tg l : Expr} {tl : TE} (hl : PE X l tl) : PI X tg l (iSeq X.K tl) := by
  refine ⟨fun pins s σ H R I h => ?_⟩
  refine thn (hl.run pins s σ H _ I h) fun v s1 ⟨x, H1, I1, r1, q1⟩ => ?_
  rcases q1 with ⟨a, e, ⟨xs, hq⟩, q⟩ | ⟨a, e, ⟨xs, hq⟩, q⟩ | ⟨z, ez, q⟩
  · subst e
    cases r1
    obtain ⟨its, rv, p, hz⟩ := I1.list hq
    exact wpAny_pyIter_list p.isList (pi_one (tk := s1.toks) I1 _ (turn_list a _) ⟨_, Heap.get?_push_size _ rfl, rfl, rfl⟩ q)
  · subst e
    cases r1
    obtain ⟨its, rv, p, hz⟩ := I1.tuple hq
    exact wpAny_pyIter_tuple (show s1.heap.IsTuple a its.toArray from p) (pi_one (tk := s1.toks) I1 _ (turn_tuple a _) ⟨_, Heap.get?_push_size _ rfl, rfl, rfl⟩ q)
  · subst ez
    obtain ⟨t, rfl⟩ := r1
    cases ha : z.cps.all (· < 128)
    · exact wpAny_pyIter_wide ha (pi_one (tk := s1.toks) I1 _ (turn_str _ z t "str_iterator" (.inr rfl)) ⟨_, Heap.get?_push_size _ rfl, rfl, rfl⟩ q)
    · exact wpAny_pyIter_ascii ha (pi_one (tk := s1.toks) I1 _ (turn_str _ z t "str_ascii_iterator" (.inl rfl)) ⟨_, Heap.get?_push_size _ rfl, rfl, rfl⟩ q)
section
variable {G : GI} {H1 : Hp} {ds es : List D} {chk : Sto → Prop}
theorem RepS.lstOf {S : Sto} {H : Hp} {a : Addr} (rS : RepS G S H) (h : lstOf (.ref a) S = some ds) : ∃ vs, SqL G.K H a vs ∧ RepVs G H ds vs := by
  unfold Lr.lstOf at h
  replace h : (match S a with | some (.lst ds) => some ds | some (.rol ds) => some ds | _ => none) = some ds := h
  split at h
  · cases h; rename_i e; exact rS.isL (.inl e)
  · cases h; rename_i e; exact rS.isL (.inr e)
  · cases h
theorem Wk.list {a : Addr} (hc : ∀ S, chk S → lstOf (.ref a) S = some ds) : Wk G (Itl G.K a) ds chk H1 where
  go := fun i H S d t rS hk e => by
    obtain ⟨vs, h1, h2⟩ := rS.lstOf (hc S hk)
    obtain ⟨v, h3, h4⟩ := h2.get e
    exact ⟨vs, v, h1, h3⟩
  yld := fun i H S d x H' t rS hk e ⟨e1, f⟩ => by
    subst e1
    obtain ⟨vs, h1, h2⟩ := rS.lstOf (hc S hk)
    obtain ⟨v, h3, h4⟩ := h2.get e
    have := f vs h1
    rw [h3] at this; cases this
    exact ⟨TExt.refl _, rS, h4⟩
  stop := fun i H S t rS hk e => by
    obtain ⟨vs, h1, h2⟩ := rS.lstOf (hc S hk)
    exact ⟨vs, h1, by rw [← h2.length, e]; exact Nat.le_refl _⟩
theorem Wk.tup {d : D} {p : Addr} (rV : RepV G H1 d (.ref p)) (hd : d = .tup ds ∨ d = .kt ds ∨ d = .key ds) : Wk G (Itt G.K p) ds chk H1 := by
  have sq : ∀ H, TExt H1 H → ∃ vs, SqT G.K H p vs ∧ RepVs G H ds vs := fun H t => by
    obtain ⟨q, vs, h1, h2, h3⟩ := (rV.mono t).seqT hd
    cases h1
    exact ⟨vs, h2, h3⟩
  exact {
    go := fun i H S d t rS hk e => by
      obtain ⟨vs, h1, h2⟩ := sq H t
      obtain ⟨v, h3, h4⟩ := h2.get e
      exact ⟨vs, v, h1, h3⟩
    yld := fun i H S d x H' t rS hk e ⟨e1, f⟩ => by
      subst e1
      obtain ⟨vs, h1, h2⟩ := sq _ t
      obtain ⟨v, h3, h4⟩ := h2.get e
      have := f vs h1
      rw [h3] at this; cases this
      exact ⟨TExt.refl _, rS, h4⟩
    stop := fun i H S t rS hk e => by
      obtain ⟨vs, h1, h2⟩ := sq H t
      exact ⟨vs, h1, by rw [← h2.length, e]; exact Nat.le_refl _⟩ }
theorem Wk.str {z : Str} : Wk G (Its z) (z.cps.toList.map fun c => .str ⟨#[c]⟩) chk H1 where
  go := fun i H S d t rS hk e => by
    rw [List.getElem?_map] at e
    obtain ⟨c, e1, e2⟩ := Option.map_eq_some_iff.mp e
    obtain ⟨h, _⟩ := List.getElem?_eq_some_iff.mp e1
    show i < z.cps.size
    simpa using h
  yld := fun i H S d x H' t rS hk e ⟨e1, c, e2, e3⟩ => by
    subst e1 e3
    rw [List.getElem?_map, Array.getElem?_toList, e2] at e
    cases e
    exact ⟨TExt.refl _, rS, .str _⟩
  stop := fun i H S t rS hk e => by
    rw [List.length_map] at e
    show z.cps.size ≤ i
    rw [e]; simp
theorem Wk.rng {lo : Int} {n : Nat} : Wk G (Itr lo n) ((List.range n).map fun i => .int (lo + (i : Nat))) chk H1 where
  go := fun i H S d t rS hk e => by
    rw [List.getElem?_map] at e
    obtain ⟨c, e1, e2⟩ := Option.map_eq_some_iff.mp e
    obtain ⟨h, _⟩ := List.getElem?_eq_some_iff.mp e1
    show i < n
    simpa using h
  yld := fun i H S d x H' t rS hk e ⟨e1, e2⟩ => by
    subst e1 e2
    rw [List.getElem?_map] at e
    obtain ⟨c, e1, e2⟩ := Option.map_eq_some_iff.mp e
    obtain ⟨h, h'⟩ := List.getElem?_eq_some_iff.mp e1
    rw [List.getElem_range] at h'
    subst h' e2
    exact ⟨TExt.refl _, rS, .int _⟩
  stop := fun i H S t rS hk e => by
    rw [List.length_map, List.length_range] at e
    show n ≤ i
    rw [e]; exact Nat.le_refl _
theorem Wk.rngC {lo c : Int} {n : Nat} : Wk G (Itc lo c n) ((List.range n).map fun i => .int (lo + (i : Nat) * c)) chk H1 where
  go := fun i H S d t rS hk e => by
    rw [List.getElem?_map] at e
    obtain ⟨cc, e1, e2⟩ := Option.map_eq_some_iff.mp e
    obtain ⟨h, _⟩ := List.getElem?_eq_some_iff.mp e1
    show i < n
    simpa using h
  yld := fun i H S d x H' t rS hk e ⟨e1, e2⟩ => by
    subst e1 e2
    rw [List.getElem?_map] at e
    obtain ⟨cc, e1, e2⟩ := Option.map_eq_some_iff.mp e
    obtain ⟨h, h'⟩ := List.getElem?_eq_some_iff.mp e1
    rw [List.getElem_range] at h'
    subst h' e2
    exact ⟨TExt.refl _, rS, .int _⟩
  stop := fun i H S t rS hk e => by
    rw [List.length_map, List.length_range] at e
    show n ≤ i
    rw [e]; exact Nat.le_refl _
theorem enumL_get : ∀ {ds : List D} {n i : Nat} {d : D}, (enumL n ds)[i]? = some d → ∃ x, ds[i]? = some x ∧ d = .key [.int ((n + i : Nat) : Int), x]
  | [], _, _, _, e => by simp [enumL] at e
  | x :: ds, n, 0, d, e => by simp only [enumL, List.getElem?_cons_zero, Option.some.injEq] at e; exact ⟨x, rfl, e.symm⟩
  | x :: ds, n, i + 1, d, e => by
    simp only [enumL, List.getElem?_cons_succ] at e
    obtain ⟨y, h1, h2⟩ := enumL_get e
    exact ⟨y, by simpa using h1, by rw [h2]; congr 4; omega⟩
theorem enumL_length : ∀ {ds : List D} {n : Nat}, (enumL n ds).length = ds.length
  | [], _ => rfl
  | x :: ds, n => by simp only [enumL, List.length_cons, enumL_length]
theorem zipL_get : ∀ {ds es : List D} {i : Nat} {d : D}, (zipL ds es)[i]? = some d → ∃ x y, ds[i]? = some x ∧ es[i]? = some y ∧ d = .key [x, y]
  | [], _, _, _, e => by simp [zipL] at e
  | x :: ds, [], _, _, e => by simp [zipL] at e
  | x :: ds, y :: es, 0, d, e => by simp only [zipL, List.getElem?_cons_zero, Option.some.injEq] at e; exact ⟨x, y, rfl, rfl, e.symm⟩
  | x :: ds, y :: es, i + 1, d, e => by
    simp only [zipL, List.getElem?_cons_succ] at e
    obtain ⟨x', y', h1, h2, h3⟩ := zipL_get e
    exact ⟨x', y', by simpa using h1, by simpa using h2, h3⟩
theorem zipL_length : ∀ {ds es : List D}, (zipL ds es).length = min ds.length es.length
  | [], _ => by simp [zipL]
  | x :: ds, [] => by simp [zipL]
  | x :: ds, y :: es => by simp only [zipL, List.length_cons, zipL_length]; omega
theorem Wk.enum {a : Addr} (hc : ∀ S, chk S → lstOf (.ref a) S = some ds) : Wk G (Ite G.K a) (enumL 0 ds) chk H1 where
  go := fun i H S d t rS hk e => by
    obtain ⟨vs, h1, h2⟩ := rS.lstOf (hc S hk)
    obtain ⟨x, e1, _⟩ := enumL_get e
    obtain ⟨v, h3, h4⟩ := h2.get e1
    exact ⟨vs, v, h1, h3⟩
  yld := fun i H S d x H' t rS hk e ⟨T, y, e1, e2, e3, f⟩ => by
    subst e1 e3
    obtain ⟨vs, h1, h2⟩ := rS.lstOf (hc S hk)
    obtain ⟨x, e1, e4⟩ := enumL_get e
    obtain ⟨v, h3, h4⟩ := h2.get e1
    have := f vs h1
    rw [h3] at this; cases this
    subst e4
    refine ⟨TExt.new e2, rS.laid e2, .key upd_same (.cons ?_ (.cons (h4.mono (TExt.new e2)) .nil))⟩
    rw [Nat.zero_add]; exact .int _
  stop := fun i H S t rS hk e => by
    obtain ⟨vs, h1, h2⟩ := rS.lstOf (hc S hk)
    exact ⟨vs, h1, by rw [enumL_length] at e; rw [← h2.length, e]; exact Nat.le_refl _⟩
theorem Wk.zipLL {a b : Addr} (hc : ∀ S, chk S → lstOf (.ref a) S = some ds ∧ lstOf (.ref b) S = some es) : Wk G (Itz G.K a b) (zipL ds es) chk H1 where
  go := fun i H S d t rS hk e => by
    obtain ⟨vs, h1, h2⟩ := rS.lstOf (hc S hk).1
    obtain ⟨us, k1, k2⟩ := rS.lstOf (hc S hk).2
    obtain ⟨x, y, e1, e2, _⟩ := zipL_get e
    obtain ⟨v, h3, h4⟩ := h2.get e1
    obtain ⟨u, k3, k4⟩ := k2.get e2
    exact ⟨vs, us, v, u, h1, k1, h3, k3⟩
  yld := fun i H S d x H' t rS hk e ⟨T, p, q, e1, e2, e3, f, g⟩ => by
    subst e1 e3
    obtain ⟨vs, h1, h2⟩ := rS.lstOf (hc S hk).1
    obtain ⟨us, k1, k2⟩ := rS.lstOf (hc S hk).2
    obtain ⟨x, y, e1, e5, e4⟩ := zipL_get e
    obtain ⟨v, h3, h4⟩ := h2.get e1
    obtain ⟨u, k3, k4⟩ := k2.get e5
    have := f vs h1
    rw [h3] at this; cases this
    have := g us k1
    rw [k3] at this; cases this
    subst e4
    exact ⟨TExt.new e2, rS.laid e2, .key upd_same (.cons (h4.mono (TExt.new e2)) (.cons (k4.mono (TExt.new e2)) .nil))⟩
  stop := fun i H S t rS hk e => by
    obtain ⟨vs, h1, h2⟩ := rS.lstOf (hc S hk).1
    obtain ⟨us, k1, k2⟩ := rS.lstOf (hc S hk).2
    refine ⟨vs, us, h1, k1, ?_⟩
    rw [zipL_length] at e
    rw [← h2.length, ← k2.length]; omega
theorem tupOf_seqT {d : D} {H : Hp} {v : V} (r : RepV G H d v) (h : tupOf d = some ds) : ∃ p vs, v = .ref p ∧ SqT G.K H p vs ∧ RepVs G H ds vs := by
  cases d <;> simp only [tupOf, Option.some.injEq, reduceCtorEq] at h <;> subst h
  · exact r.seqT (.inl rfl)
  · exact r.seqT (.inr (.inl rfl))
  · exact r.seqT (.inr (.inr rfl))
theorem Wk.enumT {c : D} {a : Addr} (ra : RepV G H1 c (.ref a)) (ha : tupOf c = some ds) : Wk G (IteT G.K a) (enumL 0 ds) chk H1 := by
  have sa : ∀ H, TExt H1 H → ∃ vs, SqT G.K H a vs ∧ RepVs G H ds vs := fun H t => by
    obtain ⟨q, vs, h1, h2, h3⟩ := tupOf_seqT (ra.mono t) ha
    cases h1
    exact ⟨vs, h2, h3⟩
  exact {
    go := fun i H S d t rS hk e => by
      obtain ⟨vs, h1, h2⟩ := sa H t
      obtain ⟨x, e1, _⟩ := enumL_get e
      obtain ⟨v, h3, h4⟩ := h2.get e1
      exact ⟨vs, v, h1, h3⟩
    yld := fun i H S d x H' t rS hk e ⟨T, y, e1, e2, e3, f⟩ => by
      subst e1 e3
      obtain ⟨vs, h1, h2⟩ := sa _ t
      obtain ⟨x, e1, e4⟩ := enumL_get e
      obtain ⟨v, h3, h4⟩ := h2.get e1
      have := f vs h1
      rw [h3] at this; cases this
      subst e4
      refine ⟨TExt.new e2, rS.laid e2, .key upd_same (.cons ?_ (.cons (h4.mono (TExt.new e2)) .nil))⟩
      rw [Nat.zero_add]; exact .int _
    stop := fun i H S t rS hk e => by
      obtain ⟨vs, h1, h2⟩ := sa H t
      exact ⟨vs, h1, by rw [enumL_length] at e; rw [← h2.length, e]; exact Nat.le_refl _⟩ }
theorem Wk.zipT {c d : D} {a b : Addr} (ra : RepV G H1 c (.ref a)) (rb : RepV G H1 d (.ref b)) (ha : tupOf c = some ds) (hb : tupOf d = some es) : Wk G (RZ.ItzT G.K a b) (zipL ds es) chk H1 := by
  have sa : ∀ H, TExt H1 H → ∃ vs, SqT G.K H a vs ∧ RepVs G H ds vs := fun H t => by
    obtain ⟨q, vs, h1, h2, h3⟩ := tupOf_seqT (ra.mono t) ha
    cases h1
    exact ⟨vs, h2, h3⟩
  have sb : ∀ H, TExt H1 H → ∃ vs, SqT G.K H b vs ∧ RepVs G H es vs := fun H t => by
    obtain ⟨q, vs, h1, h2, h3⟩ := tupOf_seqT (rb.mono t) hb
    cases h1
    exact ⟨vs, h2, h3⟩
  exact {
    go := fun i H S d t rS hk e => by
      obtain ⟨vs, h1, h2⟩ := sa H t
      obtain ⟨us, k1, k2⟩ := sb H t
      obtain ⟨x, y, e1, e2, _⟩ := zipL_get e
      obtain ⟨v, h3, h4⟩ := h2.get e1
      obtain ⟨u, k3, k4⟩ := k2.get e2
      exact ⟨vs, us, v, u, h1, k1, h3, k3⟩
    yld := fun i H S d x H' t rS hk e ⟨T, p, q, e1, e2, e3, f, g⟩ => by
      subst e1 e3
      obtain ⟨vs, h1, h2⟩ := sa _ t
      obtain ⟨us, k1, k2⟩ := sb _ t
      obtain ⟨x, y, e1, e5, e4⟩ := zipL_get e
      obtain ⟨v, h3, h4⟩ := h2.get e1
      obtain ⟨u, k3, k4⟩ := k2.get e5
      have := f vs h1
      rw [h3] at this; cases this
      have := g us k1
      rw [k3] at this; cases this
      subst e4
      exact ⟨TExt.new e2, rS.laid e2, .key upd_same (.cons (h4.mono (TExt.new e2)) (.cons (k4.mono (TExt.new e2)) .nil))⟩
    stop := fun i H S t rS hk e => by
      obtain ⟨vs, h1, h2⟩ := sa H t
      obtain ⟨us, k1, k2⟩ := sb H t
      refine ⟨vs, us, h1, k1, ?_⟩
      rw [zipL_length] at e
      rw [← h2.length, ← k2.length]; omega }
theorem Wk.zipM {c : D} {a b : Addr} (ra : RepV G H1 c (.ref a)) (ha : tupOf c = some ds) (hc : ∀ S, chk S → lstOf (.ref b) S = some es) : Wk G (ItzM G.K a b) (zipL ds es) chk H1 := by
  have sa : ∀ H, TExt H1 H → ∃ vs, SqT G.K H a vs ∧ RepVs G H ds vs := fun H t => by
    obtain ⟨q, vs, h1, h2, h3⟩ := tupOf_seqT (ra.mono t) ha
    cases h1
    exact ⟨vs, h2, h3⟩
  exact {
    go := fun i H S d t rS hk e => by
      obtain ⟨vs, h1, h2⟩ := sa H t
      obtain ⟨us, k1, k2⟩ := rS.lstOf (hc S hk)
      obtain ⟨x, y, e1, e2, _⟩ := zipL_get e
      obtain ⟨v, h3, h4⟩ := h2.get e1
      obtain ⟨u, k3, k4⟩ := k2.get e2
      exact ⟨vs, us, v, u, h1, k1, h3, k3⟩
    yld := fun i H S d x H' t rS hk e ⟨T, p, q, e1, e2, e3, f, g⟩ => by
      subst e1 e3
      obtain ⟨vs, h1, h2⟩ := sa _ t
      obtain ⟨us, k1, k2⟩ := rS.lstOf (hc S hk)
      obtain ⟨x, y, e1, e5, e4⟩ := zipL_get e
      obtain ⟨v, h3, h4⟩ := h2.get e1
      obtain ⟨u, k3, k4⟩ := k2.get e5
      have := f vs h1
      rw [h3] at this; cases this
      have := g us k1
      rw [k3] at this; cases this
      subst e4
      exact ⟨TExt.new e2, rS.laid e2, .key upd_same (.cons (h4.mono (TExt.new e2)) (.cons (k4.mono (TExt.new e2)) .nil))⟩
    stop := fun i H S t rS hk e => by
      obtain ⟨vs, h1, h2⟩ := sa H t
      obtain ⟨us, k1, k2⟩ := rS.lstOf (hc S hk)
      refine ⟨vs, us, h1, k1, ?_⟩
      rw [zipL_length] at e
      rw [← h2.length, ← k2.length]; omega }
theorem Wk.zipN {c : D} {a b : Addr} (rb : RepV G H1 c (.ref b)) (hb : tupOf c = some es) (hc : ∀ S, chk S → lstOf (.ref a) S = some ds) : Wk G (ItzN G.K a b) (zipL ds es) chk H1 := by
  have sb : ∀ H, TExt H1 H → ∃ vs, SqT G.K H b vs ∧ RepVs G H es vs := fun H t => by
    obtain ⟨q, vs, h1, h2, h3⟩ := tupOf_seqT (rb.mono t) hb
    cases h1
    exact ⟨vs, h2, h3⟩
  exact {
    go := fun i H S d t rS hk e => by
      obtain ⟨vs, h1, h2⟩ := rS.lstOf (hc S hk)
      obtain ⟨us, k1, k2⟩ := sb H t
      obtain ⟨x, y, e1, e2, _⟩ := zipL_get e
      obtain ⟨v, h3, h4⟩ := h2.get e1
      obtain ⟨u, k3, k4⟩ := k2.get e2
      exact ⟨vs, us, v, u, h1, k1, h3, k3⟩
    yld := fun i H S d x H' t rS hk e ⟨T, p, q, e1, e2, e3, f, g⟩ => by
      subst e1 e3
      obtain ⟨vs, h1, h2⟩ := rS.lstOf (hc S hk)
      obtain ⟨us, k1, k2⟩ := sb _ t
      obtain ⟨x, y, e1, e5, e4⟩ := zipL_get e
      obtain ⟨v, h3, h4⟩ := h2.get e1
      obtain ⟨u, k3, k4⟩ := k2.get e5
      have := f vs h1
      rw [h3] at this; cases this
      have := g us k1
      rw [k3] at this; cases this
      subst e4
      exact ⟨TExt.new e2, rS.laid e2, .key upd_same (.cons (h4.mono (TExt.new e2)) (.cons (k4.mono (TExt.new e2)) .nil))⟩
    stop := fun i H S t rS hk e => by
      obtain ⟨vs, h1, h2⟩ := rS.lstOf (hc S hk)
      obtain ⟨us, k1, k2⟩ := sb H t
      refine ⟨vs, us, h1, k1, ?_⟩
      rw [zipL_length] at e
      rw [← h2.length, ← k2.length]; omega }
end
section
variable {e a b tg : Expr} {pos : Pos} {ma mb : Env → Sto → QE → Prop}
theorem lst_items {d : D} {S : Sto} {ds : List D} (h : itemsM d S fun ds' => ds' = ds) (a : Nat) (e : d = .ref a) : lstOf (.ref a) S = some ds := by
  subst e
  unfold itemsM at h
  unfold lstOf
  replace h : (match S a with | some (.lst es) => es = ds | some (.rol es) => es = ds | _ => False) := h
  show (match S a with | some (.lst ds) => some ds | some (.rol ds) => some ds | _ => none) = some ds
  split at h
  · rw [h]
  · rw [h]
  · exact h.elim
theorem sI_seq (ha : PE X e (LE X cls ma)) : PI X tg e (LI X cls fun σ S Q => ma σ S fun d S1 => itemsM d S1 fun ds => Q ds (fun S' => itemsM d S' fun ds' => ds' = ds) S1) :=
  PI_le (pi_seq ha) fun τ H R ⟨σ, S, Q0, rE, rS, h, c⟩ => ⟨σ, S, _, rE, rS, h, fun d S1 x H1 q1 t1 rS1 rV1 => by
    have tp : ∀ ds, (d = .tup ds ∨ d = .kt ds ∨ d = .key ds) → Q0 ds (fun S' => itemsM d S' fun ds' => ds' = ds) S1 → (∃ a, x = .ref a ∧ (∃ xs, SqT X.K H1 a xs) ∧ R (Itt X.K a) H1) := fun ds hd q => by
      obtain ⟨p, vs, h1, h2, h3⟩ := rV1.seqT hd
      subst h1
      exact ⟨p, rfl, ⟨vs, h2⟩, c _ _ _ _ _ q t1 rS1 (Wk.tup rV1 hd)⟩
    unfold itemsM at q1
    split at q1
    · exact .inr (.inl (tp _ (.inl rfl) q1))
    · exact .inr (.inl (tp _ (.inr (.inl rfl)) q1))
    · exact .inr (.inl (tp _ (.inr (.inr rfl)) q1))
    · cases rV1
      exact .inr (.inr ⟨_, rfl, c _ _ _ _ _ q1 t1 rS1 Wk.str⟩)
    · cases rV1
      rename_i p
      split at q1
      · rename_i he
        obtain ⟨vs, h1, h2⟩ := rS1.isL (.inl he)
        exact .inl ⟨p, rfl, ⟨vs, h1⟩, c _ _ _ _ _ q1 t1 rS1 (Wk.list fun S h => lst_items (d := .ref p) h p rfl)⟩
      · rename_i he
        obtain ⟨vs, h1, h2⟩ := rS1.isL (.inr he)
        exact .inl ⟨p, rfl, ⟨vs, h1⟩, c _ _ _ _ _ q1 t1 rS1 (Wk.list fun S h => lst_items (d := .ref p) h p rfl)⟩
      · exact q1.elim
    · exact q1.elim⟩
variable {L : Nat} {mr : Env → Sto → (List D → Sto → Prop) → Prop} {p : Pos}
theorem int_args {G : GI} {H : Hp} {ds : List D} {vs : List V} {n : Int} (r : RepVs G H ds vs) (h : ds = [.int n]) : vs = [.int n] := by
  subst h
  cases r with | cons a b => cases a; cases b; rfl
theorem int_args2 {G : GI} {H : Hp} {ds : List D} {vs : List V} {n m : Int} (r : RepVs G H ds vs) (h : ds = [.int n, .int m]) : vs = [.int n, .int m] := by
  subst h
  cases r with | cons a b => cases a; cases b with | cons a b => cases a; cases b; rfl
abbrev rngW (Q : List D → (Sto → Prop) → Sto → Prop) (ds : List D) (S1 : Sto) : Prop := match ds with
    | [.int n] => -(2 ^ 62) ≤ n ∧ n < 2 ^ 62 ∧ Q (rngL 0 n) (fun _ => True) S1
    | [.int a, .int b] => (-(2 ^ 62) ≤ a ∧ a < 2 ^ 62 ∧ -(2 ^ 62) ≤ b ∧ b < 2 ^ 62) ∧ Q (rngL a b) (fun _ => True) S1
    | [.int a, .int b, .int c] => (c = -1 ∧ -(2 ^ 62) ≤ a ∧ a < 2 ^ 62 ∧ -(2 ^ 62) ≤ b ∧ b < 2 ^ 62) ∧ Q (rngD a b) (fun _ => True) S1
    | _ => False
theorem sI_rng1 (ok : Ok P cls k X) (h1 : isGl X.env.scope "range" = true) (hs : noStar a = true) (ha : PA X [a] (LA X cls 1 mr)) : PI X tg (.Call (.Name "range" p) [a] [] pos) (LI X cls fun σ S Q => mr σ S fun ds S1 => rngW Q ds S1) :=
  PI_le (pi_range1 (gl_of h1) (ok.bl "range" (by decide)) ha (star_cons hs)) fun τ H R ⟨σ, S, Q0, rE, rS, h, c⟩ => ⟨σ, S, _, rE, rS, h, fun ds S1 vs H1 q1 t1 rS1 rV1 hl => by
    unfold rngW at q1
    split at q1
    · refine ⟨_, int_args rV1 rfl, q1.1, q1.2.1, c _ _ _ _ _ q1.2.2 t1 rS1 ?_⟩
      have z := Wk.rng (G := ⟨X.K, cls⟩) (H1 := H1) (chk := fun _ => True) (lo := 0) (n := (‹Int› - 0).toNat)
      rw [Int.sub_zero] at z
      unfold rngL
      rw [Int.sub_zero]
      exact z
    · have := rV1.length; simp [hl] at this
    · have := rV1.length; simp [hl] at this
    · exact q1.elim⟩
theorem sI_rng2 (ok : Ok P cls k X) (h1 : isGl X.env.scope "range" = true) (hs : noStar a = true) (hs2 : noStar b = true) (ha : PA X [a, b] (LA X cls 2 mr)) : PI X tg (.Call (.Name "range" p) [a, b] [] pos) (LI X cls fun σ S Q => mr σ S fun ds S1 => rngW Q ds S1) :=
  PI_le (pi_range2 (gl_of h1) (ok.bl "range" (by decide)) ha (by rw [star_cons hs, star_cons hs2]; rfl) (star_cons hs2)) fun τ H R ⟨σ, S, Q0, rE, rS, h, c⟩ => ⟨σ, S, _, rE, rS, h, fun ds S1 vs H1 q1 t1 rS1 rV1 hl => by
    unfold rngW at q1
    split at q1
    · have := rV1.length; simp [hl] at this
    · exact ⟨_, _, int_args2 rV1 rfl, q1.1, c _ _ _ _ _ q1.2 t1 rS1 Wk.rng⟩
    · have := rV1.length; simp [hl] at this
    · exact q1.elim⟩
theorem int_args3 {G : GI} {H : Hp} {ds : List D} {vs : List V} {n m o : Int} (r : RepVs G H ds vs) (h : ds = [.int n, .int m, .int o]) : vs = [.int n, .int m, .int o] := by
  subst h
  cases r with | cons a b => cases a; cases b with | cons a b => cases a; cases b with | cons a b => cases a; cases b; rfl
theorem sI_rng3 {c : Expr} (ok : Ok P cls k X) (h1 : isGl X.env.scope "range" = true) (hs : noStar a = true) (hs2 : noStar b = true) (hs3 : noStar c = true) (ha : PA X [a, b, c] (LA X cls 3 mr)) : PI X tg (.Call (.Name "range" p) [a, b, c] [] pos) (LI X cls fun σ S Q => mr σ S fun ds S1 => rngW Q ds S1) :=
  PI_le (pi_range3 (gl_of h1) (ok.bl "range" (by decide)) ha (by rw [star_cons hs, star_cons hs2, star_cons hs3] <;> rfl) (by rw [star_cons hs2, star_cons hs3] <;> rfl)) fun τ H R ⟨σ, S, Q0, rE, rS, h, c⟩ => ⟨σ, S, _, rE, rS, h, fun ds S1 vs H1 q1 t1 rS1 rV1 hl => by
    unfold rngW at q1
    split at q1
    · have := rV1.length; simp [hl] at this
    · have := rV1.length; simp [hl] at this
    · obtain ⟨⟨rfl, b1, b2, b3, b4⟩, q1⟩ := q1
      exact ⟨_, _, _, _, int_args3 rV1 rfl, RgC.neg b1 b2 b3 b4, c _ _ _ _ _ q1 t1 rS1 Wk.rngC⟩
    · exact q1.elim⟩
def enuK (Q0 : List D → (Sto → Prop) → Sto → Prop) (ds : List D) (S1 : Sto) : Prop := match ds with
  | [d] => (match lstOf d S1 with
    | some ds => Q0 (enumL 0 ds) (fun S' => lstOf d S' = some ds) S1
    | none => (match tupOf d with
      | some ds => Q0 (enumL 0 ds) (fun _ => True) S1
      | none => False))
  | _ => False
theorem lstOf_ref {d : D} {S : Sto} {ds : List D} (h : lstOf d S = some ds) : ∃ a, d = .ref a := by
  cases d <;> first | exact ⟨_, rfl⟩ | cases h
theorem sI_enu (ok : Ok P cls k X) {elts : List Expr} {kk : Nat} {tpos : Pos} (h1 : isGl X.env.scope "enumerate" = true) (hs : noStar a = true) (ha : PE X a (LE X cls ma)) : PI X (.Tuple elts kk tpos) (.Call (.Name "enumerate" p) [a] [] pos) (LI X cls fun σ S Q => ma σ S fun d S1 => match lstOf d S1 with
    | some ds => Q (enumL 0 ds) (fun S' => lstOf d S' = some ds) S1
    | none => (match tupOf d with
      | some ds => Q (enumL 0 ds) (fun _ => True) S1
      | none => False)) :=
  PI_le (pi_enumA (gl_of h1) (ok.bl "enumerate" (by decide)) (sA_cons hs ha sA_nil) (star_cons hs)) fun τ H R ⟨σ, S, Q0, rE, rS, h, c⟩ => by
    refine lift_args (L := 1) (K := enuK Q0) rE rS h fun ds S1 vs H1 q1 t1 rS1 rV1 hl => ?_
    unfold enuK at q1
    split at q1
    · split at q1
      · rename_i h
        obtain ⟨a, rfl⟩ := lstOf_ref h
        obtain ⟨us, h1, h2⟩ := rS1.lstOf h
        cases rV1 with | cons x y => cases x; cases y; exact ⟨a, us, rfl, .inl ⟨h1, c _ _ _ _ _ q1 t1 rS1 (Wk.enum fun S h => h)⟩⟩
      · split at q1
        · rename_i h
          cases rV1 with
          | cons x y =>
            cases y
            obtain ⟨a, us, rfl, h2, h3⟩ := tupOf_seqT x h
            exact ⟨a, us, rfl, .inr ⟨h2, c _ _ _ _ _ q1 t1 rS1 (Wk.enumT x h)⟩⟩
        · exact q1.elim
    · exact q1.elim
def zipK (Q : List D → (Sto → Prop) → Sto → Prop) (ds : List D) (S2 : Sto) : Prop := match ds with
  | [d, e] => (match lstOf d S2, lstOf e S2 with
    | some ds, some es => Q (zipL ds es) (fun S' => lstOf d S' = some ds ∧ lstOf e S' = some es) S2
    | _, _ => match tupOf d, tupOf e with
      | some ds, some es => Q (zipL ds es) (fun _ => True) S2
      | _, _ => (match tupOf d, lstOf e S2 with
        | some ds, some es => Q (zipL ds es) (fun S' => lstOf e S' = some es) S2
        | _, _ => (match lstOf d S2, tupOf e with
          | some ds, some es => Q (zipL ds es) (fun S' => lstOf d S' = some ds) S2
          | _, _ => False)))
  | _ => False
theorem sI_zip (ok : Ok P cls k X) {elts : List Expr} {kk : Nat} {tpos : Pos} (h1 : isGl X.env.scope "zip" = true) (hs : noStar a = true) (hs2 : noStar b = true) (ha : PE X a (LE X cls ma)) (hb : PE X b (LE X cls mb)) : PI X (.Tuple elts kk tpos) (.Call (.Name "zip" p) [a, b] [] pos) (LI X cls fun σ S Q => ma σ S fun d S1 => mb σ S1 fun e S2 => match lstOf d S2, lstOf e S2 with
    | some ds, some es => Q (zipL ds es) (fun S' => lstOf d S' = some ds ∧ lstOf e S' = some es) S2
    | _, _ => match tupOf d, tupOf e with
      | some ds, some es => Q (zipL ds es) (fun _ => True) S2
      | _, _ => (match tupOf d, lstOf e S2 with
        | some ds, some es => Q (zipL ds es) (fun S' => lstOf e S' = some es) S2
        | _, _ => (match lstOf d S2, tupOf e with
          | some ds, some es => Q (zipL ds es) (fun S' => lstOf d S' = some ds) S2
          | _, _ => False))) :=
  PI_le (pi_zip3 (gl_of h1) (ok.bl "zip" (by decide)) (sA_cons hs ha (sA_cons hs2 hb sA_nil)) (star_cons hs) (by rw [star_cons hs2]; rfl)) fun τ H R ⟨σ, S, Q0, rE, rS, h, c⟩ => by
    refine lift_args (L := 2) (K := zipK Q0) rE rS h fun ds S1 vs H1 q1 t1 rS1 rV1 hl => ?_
    unfold zipK at q1
    split at q1
    · split at q1
      · rename_i h g
        obtain ⟨a, rfl⟩ := lstOf_ref h
        obtain ⟨b, rfl⟩ := lstOf_ref g
        obtain ⟨us, h1, h2⟩ := rS1.lstOf h
        obtain ⟨ws, k1, k2⟩ := rS1.lstOf g
        cases rV1 with | cons x y => cases x; cases y with | cons x y => cases x; cases y; exact ⟨a, b, us, ws, rfl, .inl ⟨h1, k1, c _ _ _ _ _ q1 t1 rS1 (Wk.zipLL fun S h => h)⟩⟩
      · split at q1
        · rename_i h g
          cases rV1 with
          | cons x y =>
            cases y with
            | cons x' y =>
              cases y
              obtain ⟨a, us, rfl, h2, h3⟩ := tupOf_seqT x h
              obtain ⟨b, ws, rfl, k2, k3⟩ := tupOf_seqT x' g
              exact ⟨a, b, us, ws, rfl, .inr (.inl ⟨h2, k2, c _ _ _ _ _ q1 t1 rS1 (Wk.zipT x x' h g)⟩)⟩
        · split at q1
          · rename_i h g
            cases rV1 with
            | cons x y =>
              cases y with
              | cons x' y =>
                cases y
                obtain ⟨a, us, rfl, h2, h3⟩ := tupOf_seqT x h
                obtain ⟨b, rfl⟩ := lstOf_ref g
                obtain ⟨ws, k1, k2⟩ := rS1.lstOf g
                cases x'
                exact ⟨a, b, us, ws, rfl, .inr (.inr (.inl ⟨h2, k1, c _ _ _ _ _ q1 t1 rS1 (Wk.zipM x h fun S h => h)⟩))⟩
          · split at q1
            · rename_i h g
              cases rV1 with
              | cons x y =>
                cases y with
                | cons x' y =>
                  cases y
                  obtain ⟨b, ws, rfl, k2, k3⟩ := tupOf_seqT x' g
                  obtain ⟨a, rfl⟩ := lstOf_ref h
                  obtain ⟨us, h1, h2⟩ := rS1.lstOf h
                  cases x
                  exact ⟨a, b, us, ws, rfl, .inr (.inr (.inr ⟨h1, k2, c _ _ _ _ _ q1 t1 rS1 (Wk.zipN x' g fun S h => h)⟩))⟩
            · exact q1.elim
    · exact q1.elim
def ItvG (Sq : Hp → List V → Prop) (n : Nat) : It := ⟨fun i H => i < n ∧ ∃ (xs : List V) (x : V), Sq H xs ∧ xs[n - 1 - i]? = some x, fun i H x H' => H' = H ∧ ∀ xs, Sq H xs → xs[n - 1 - i]? = some x, fun i _ => n ≤ i⟩
theorem Wk.rev {G : GI} {H1 : Hp} {ds : List D} {chk : Sto → Prop} {Sq : Hp → List V → Prop} {n : Nat} (hn : ds.length = n) (sq : ∀ H S, TExt H1 H → RepS G S H → chk S → ∃ vs, Sq H vs ∧ RepVs G H ds vs) : Wk G (ItvG Sq n) ds.reverse chk H1 := by
  have rv : ∀ {xs : List D} {i : Nat} {d : D}, xs.reverse[i]? = some d → i < xs.length ∧ xs[xs.length - 1 - i]? = some d := fun {xs i d} e => by
    obtain ⟨h, _⟩ := List.getElem?_eq_some_iff.mp e
    rw [List.length_reverse] at h
    rw [List.getElem?_reverse h] at e
    exact ⟨h, e⟩
  subst hn
  exact {
    go := fun i H S d t rS hk e => by
      obtain ⟨us, k1, k2⟩ := sq H S t rS hk
      obtain ⟨l, e⟩ := rv e
      obtain ⟨v, k3, k4⟩ := k2.get e
      exact ⟨l, us, v, k1, k3⟩
    yld := fun i H S d x H' t rS hk e ⟨e1, f⟩ => by
      subst e1
      obtain ⟨us, k1, k2⟩ := sq _ S t rS hk
      obtain ⟨l, e⟩ := rv e
      obtain ⟨v, k3, k4⟩ := k2.get e
      have := f us k1
      rw [k3] at this; cases this
      exact ⟨TExt.refl _, rS, k4⟩
    stop := fun i H S t rS hk e => by
      rw [List.length_reverse] at e
      show ds.length ≤ i
      rw [e]; exact Nat.le_refl _ }
theorem sI_rev (ok : Ok P cls k X) (h1 : isGl X.env.scope "reversed" = true) (hs : noStar a = true) (ha : PE X a (LE X cls ma)) : PI X tg (.Call (.Name "reversed" p) [a] [] pos) (LI X cls fun σ S Q => ma σ S fun d S1 => match seqOf d S1 with
    | some ds => Q ds.reverse (fun S' => seqOf d S' = some ds) S1
    | none => False) :=
  PI_le (RT.pi_revA (gl_of h1) (ok.bl "reversed" (by decide)) ha (star_cons hs)) fun τ H R ⟨σ, S, Q0, rE, rS, h, c⟩ => ⟨σ, S, _, rE, rS, h, fun d S1 x H1 q1 t1 rS1 rV1 => by
    split at q1
    · rename_i ds he
      cases e : tupOf d with
      | none =>
        obtain ⟨p, rfl⟩ : ∃ p, d = .ref p := by
          cases d with
          | ref p => exact ⟨p, rfl⟩
          | tup _ => exact absurd e (by simp [tupOf])
          | kt _ => exact absurd e (by simp [tupOf])
          | key _ => exact absurd e (by simp [tupOf])
          | _ => exact absurd he (by simp [seqOf])
        cases rV1
        replace he : lstOf (.ref p) S1 = some ds := he
        obtain ⟨vs, h2, h3⟩ := rS1.lstOf he
        exact ⟨p, vs, rfl, .inl ⟨h2, c _ _ _ _ _ q1 t1 rS1 (Wk.rev (Sq := fun H => SqL X.K H p) h3.length fun H S t rS hk => rS.lstOf (show lstOf (.ref p) S = some ds from hk))⟩⟩
      | some es =>
        have : es = ds := by cases d <;> first | cases e <;> cases he <;> rfl | cases e
        subst this
        obtain ⟨p, vs, rfl, h2, h3⟩ := tupOf_seqT rV1 e
        refine ⟨p, vs, rfl, .inr ⟨h2, c _ _ _ _ _ q1 t1 rS1 (Wk.rev (Sq := fun H => SqT X.K H p) h3.length fun H S t rS hk => ?_)⟩⟩
        obtain ⟨p', vs', h4, h5, h6⟩ := tupOf_seqT (rV1.mono t) e
        cases h4
        exact ⟨vs', h5, h6⟩
    · exact q1.elim⟩
end
/-! ### list comprehensions -/
def chkC (X : L2.Cx) (scope : Scope) (s : Shared) (H : Hp) (C : Addr) (cl : List (Str × Addr)) (fp : List Addr) : L2.Cx := X.blk s H scope (compEnvC scope cl C X.env) fp
theorem relab_is {X : L2.Cx} {scope : Scope} {C : Addr} {cl : List (Str × Addr)} : (compEnvC scope cl C X.env).scope = relab scope X.env.scope := rfl
theorem wipe_wipe {τ : L2.St} {vs : List Nat} : wipe (wipe τ vs) vs = wipe τ vs := by
  apply List.ext_getElem?
  intro i
  by_cases m : i ∈ vs
  · rw [wipe_in m, wipe_in m, wipe_length]
  · rw [wipe_out m]
theorem lift_lc {own : List Nat} {sl : List Nat} {mi : Env → Sto → (List D → (Sto → Prop) → Sto → Prop) → Prop} {mg : D → Env → Sto → QS → Prop} {mt : Env → Sto → (Bool → Sto → Prop) → Prop} {me : Env → Sto → QE → Prop}
    (hsl : ∀ i ∈ sl, i ∈ own) : ∀ τ H Q, LE X cls (fun σ S Q => mi σ S fun ds chk S1 => ∀ p, S1 p = none →
      loopC chk mg mt me p (wipeD σ own) (fun S2 => Q (.ref p) S2) ds (S1.put p (.lst []))) τ H Q → tLc (LI X cls mi) (LG X cls sl mg) (LT X cls mt) (LE X cls me) own τ H Q := fun τ H Q ⟨σ, S, Q0, rE, rS, h, c⟩ => by
  refine ⟨σ, S, _, rE, rS, h, fun ds chk S1 H1 J q1 t1 rS1 wk => ?_⟩
  intro p hp
  have q2 := q1 p (rS1.free hp)
  have rS2 : RepS ⟨X.K, cls⟩ (S1.put p (.lst [])) (upd H1 p (.lst [])) := rS1.new hp ⟨[], upd_same, .nil⟩
  have t2 : TExt H1 (upd H1 p (.lst [])) := TExt.new hp
  refine ⟨fun i m H => m = ds.length - i ∧ i ≤ ds.length ∧ ∃ S, RepS ⟨X.K, cls⟩ S H ∧ TExt H1 H ∧ loopC chk mg mt me p (wipeD σ own) (fun S2 => Q0 (.ref p) S2) (ds.drop i) S, ⟨ds.length, rfl, Nat.zero_le _, _, rS2, t2, q2⟩, ?_⟩
  rintro i m H2 ⟨rfl, hi, S2, rS2, t2, q2⟩
  by_cases hlt : i < ds.length
  · rw [List.drop_eq_getElem_cons hlt] at q2
    obtain ⟨hk, q2⟩ := q2
    have hd : ds[i]? = some ds[i] := List.getElem?_eq_getElem hlt
    refine .inr ⟨wk.go i H2 S2 _ t2 rS2 hk hd, fun H' => i < ds.length ∧ ∃ S, RepS ⟨X.K, cls⟩ S H' ∧ TExt H1 H' ∧ loopC chk mg mt me p (wipeD σ own) (fun S2 => Q0 (.ref p) S2) (ds.drop (i + 1)) S, fun H' ⟨_, z⟩ => ⟨ds.length - (i + 1), by omega, rfl, hlt, z⟩, fun x H' y => ?_⟩
    obtain ⟨t3, rS3, rV3⟩ := wk.yld i H2 S2 _ x H' t2 rS2 hk hd y
    refine ⟨ds[i], wipeD σ own, S2, _, (((rE.mono t1).mono t2).mono t3).wipe own, rS3, rV3, q2, fun σ4 S4 τ4 H4 q4 t4 rS4 rE4 s4 => ⟨?_, ?_⟩⟩
    · rw [s4.wipe hsl, wipe_wipe]
    · refine ⟨σ4, S4, _, rE4, rS4, q4, fun b S5 H5 q5 t5 rS5 => ?_⟩
      have t25 := ((t2.trans t3).trans t4).trans t5
      cases b with
      | true =>
        refine ⟨σ4, S5, _, rE4.mono t5, rS5, q5.1 rfl, fun y S6 v H6 q6 t6 rS6 rV6 => ?_⟩
        split at q6
        · rename_i acc he
          obtain ⟨hz, S7, ab, q7⟩ := q6
          obtain ⟨vs, h1, h2⟩ := rS6.lst he
          have t7 : TExt H6 (upd H6 p (.lst (vs ++ [v]))) := TExt.write (rS6.notup he)
          exact ⟨vs, h1, by rw [← h2.length]; exact hz, hlt, S7, (rS6.write he (show RepO ⟨X.K, cls⟩ _ p (.lst (acc ++ [y])) from ⟨_, upd_same, (h2.mono t7).snoc (rV6.mono t7)⟩)).abs ab, (t25.trans t6).trans t7, q7⟩
        · exact q6.elim
      | false =>
        obtain ⟨S7, ab, q7⟩ := q5.2 rfl
        exact ⟨hlt, S7, rS5.abs ab, t25, q7⟩
  · have e : i = ds.length := by omega
    subst e
    rw [List.drop_length] at q2
    exact .inl ⟨wk.stop _ H2 S2 t2 rS2 q2.1 rfl, c _ _ _ _ q2.2 (t1.trans t2) rS2 (.ref p)⟩
theorem own_ix {N : List Str} {own : List Nat} : (ownP N own).map (·.2) = own := by
  unfold ownP
  rw [List.map_map]
  exact List.map_id' own
theorem sE_lrv {a : Expr} {ma : Env → Sto → QE → Prop} {pos : Pos} (ok : Ok P cls k X) {p q pos2 : Pos} (g1 : isGl X.env.scope "list" = true) (g2 : isGl X.env.scope "reversed" = true) (hs : noStar a = true) (ha : PE X a (LE X cls ma)) : PE X (.Call (.Name "list" p) [.Call (.Name "reversed" q) [a] [] pos2] [] pos)
    (LE X cls fun σ S Q => ma σ S fun u S1 => match seqOf u S1 with
      | some ds => newL ds.reverse S1 Q
      | none => False) :=
  (pe_listRevA ok.calm (gl_of g1) (ok.bl "list" (by decide)) (gl_of g2) (ok.bl "reversed" (by decide)) ha (star_cons hs)).le fun τ H Q ⟨σ, S, Q0, rE, rS, h, c⟩ => ⟨σ, S, _, rE, rS, h, fun u S1 x H1 q1 t1 rS1 rV1 => by
    split at q1
    · rename_i ds he
      obtain ⟨b, vs, rfl, h1, h2⟩ := rS1.seq rV1 he
      exact ⟨b, vs, rfl, h1, cont_new (c.go t1) rS1 q1 h2.reverse⟩
    · exact q1.elim⟩
def lzpK (Q : QE) (ds : List D) (S2 : Sto) : Prop := match ds with
  | [d, e] => lzpM d e S2 Q
  | _ => False
theorem zipL_rep {G : GI} {H H' : Hp} (t : TExt H H') : ∀ {ds es : List D} {us ws : List V} {ts : List Addr}, RepVs G H ds us → RepVs G H es ws → Paired (fun (t : Addr) (q : V × V) => H' t = some (.tup [q.1, q.2])) ts (us.zip ws) → RepVs G H' (zipL ds es) (ts.map V.ref)
  | _, _, _, _, _, .nil, .nil, p => by cases p; exact .nil
  | _, _, _, _, _, .nil, .cons _ _, p => by cases p; exact .nil
  | _, _, _, _, _, .cons _ _, .nil, p => by cases p; exact .nil
  | _, _, _, _, _, .cons a b, .cons a' b', p => by
    cases p with
    | cons e p => exact .cons (.key e (.cons (a.mono t) (.cons (a'.mono t) .nil))) (zipL_rep t b b' p)
theorem sE_lzp {a b : Expr} {ma mb : Env → Sto → QE → Prop} {pos : Pos} (ok : Ok P cls k X) {p q pos2 : Pos} (g1 : isGl X.env.scope "list" = true) (g2 : isGl X.env.scope "zip" = true) (hs : noStar a = true) (hs2 : noStar b = true) (ha : PE X a (LE X cls ma)) (hb : PE X b (LE X cls mb)) : PE X (.Call (.Name "list" p) [.Call (.Name "zip" q) [a, b] [] pos2] [] pos)
    (LE X cls fun σ S Q => ma σ S fun u S1 => mb σ S1 fun v S2 => lzpM u v S2 Q) :=
  (pe_listZip ok.calm (gl_of g1) (ok.bl "list" (by decide)) (gl_of g2) (ok.bl "zip" (by decide)) (sA_cons hs ha (sA_cons hs2 hb sA_nil)) (star_cons rfl) (star_cons hs) (by rw [star_cons hs2]; rfl)).le fun τ H Q ⟨σ, S, Q0, rE, rS, h, c⟩ => by
    refine lift_args (L := 2) (K := lzpK Q0) rE rS h fun ds S1 vs H1 q1 t1 rS1 rV1 hl => ?_
    have fin : ∀ {d e : D} {ds es : List D} {us ws : List V}, RepVs ⟨X.K, cls⟩ H1 ds us → RepVs ⟨X.K, cls⟩ H1 es ws → newL (zipL ds es) S1 Q0 → ∀ (H' : Hp) (p : Addr) (ts : List Addr), (∀ b o, H1 b = some o → H' b = some o) → H1 p = none → H' p = some (.lst (ts.map V.ref)) → Paired (fun (t : Addr) (q : V × V) => H' t = some (.tup [q.1, q.2])) ts (us.zip ws) → Q (.ref p) H' := fun {_ _ ds es us ws} r1 r2 q H' p ts kp hpn hl hpr => by
      have t2 : TExt H1 H' := fun b o _ e => kp b o e
      have rS2 : RepS ⟨X.K, cls⟩ (S1.put p (.lst (zipL ds es))) H' := fun b o e => by
        by_cases z : b = p
        · subst z
          rw [Sto.put_same] at e; cases e
          exact ⟨_, hl, zipL_rep t2 r1 r2 hpr⟩
        · rw [Sto.put_ne z] at e
          have r := rS1 b o e
          obtain ⟨w, hw, _⟩ := r.there
          exact r.mono t2 (by rw [hw, kp b _ hw])
      exact c _ _ _ _ (q p (rS1.free hpn)) (t1.trans t2) rS2 (.ref p)
    unfold lzpK at q1
    split at q1
    · unfold lzpM at q1
      split at q1
      · rename_i h g
        obtain ⟨a, rfl⟩ := lstOf_ref h
        obtain ⟨b, rfl⟩ := lstOf_ref g
        obtain ⟨us, h1, h2⟩ := rS1.lstOf h
        obtain ⟨ws, k1, k2⟩ := rS1.lstOf g
        cases rV1 with | cons x y => cases x; cases y with | cons x y => cases x; cases y; exact ⟨a, b, us, ws, rfl, .inl ⟨h1, k1⟩, fin (d := .non) (e := .non) h2 k2 q1⟩
      · split at q1
        · rename_i h g
          cases rV1 with
          | cons x y =>
            cases y with
            | cons x' y =>
              cases y
              obtain ⟨a, us, rfl, h2, h3⟩ := tupOf_seqT x h
              obtain ⟨b, ws, rfl, k2, k3⟩ := tupOf_seqT x' g
              exact ⟨a, b, us, ws, rfl, .inr ⟨h2, k2⟩, fin (d := .non) (e := .non) h3 k3 q1⟩
        · exact q1.elim
    · exact q1.elim
end Lr

set_option Elab.async false
set_option linter.all false
set_option maxRecDepth 100000
set_option maxHeartbeats 4000000
/-! part 9: statements -/
namespace Lr
open PySem PySem.Spec PyProof.Rows L2
variable {P : Prog} {cls : String → Addr} {k : Nat} {X : L2.Cx}
structure EndR (G : GI) (n : Nat) (D : En) (N : L2.Ends) (H : Hp) : Prop where
  nx : ∀ σ S τ H', D.nx σ S → TExt H H' → RepS G S H' → RepE G n H' σ τ → N.nx τ H'
  bk : ∀ σ S τ H', D.bk σ S → TExt H H' → RepS G S H' → RepE G n H' σ τ → N.bk τ H'
  ct : ∀ σ S τ H', D.ct σ S → TExt H H' → RepS G S H' → RepE G n H' σ τ → N.ct τ H'
  rt : ∀ d S v H', D.rt d S → TExt H H' → RepS G S H' → RepV G H' d v → N.rt v H'
theorem EndR.go {G : GI} {n : Nat} {D : En} {N : L2.Ends} {H H' : Hp} (e : EndR G n D N H) (t : TExt H H') : EndR G n D N H' :=
  ⟨fun σ S τ H'' q t' => e.nx σ S τ H'' q (t.trans t'), fun σ S τ H'' q t' => e.bk σ S τ H'' q (t.trans t'), fun σ S τ H'' q t' => e.ct σ S τ H'' q (t.trans t'), fun d S v H'' q t' => e.rt d S v H'' q (t.trans t')⟩
def liftS (G : GI) (n : Nat) (m : En → Env → Sto → Prop) : TS := fun N τ H => ∃ D σ S, RepE G n H σ τ ∧ RepS G S H ∧ m D σ S ∧ EndR G n D N H
abbrev LS (X : L2.Cx) (cls : String → Addr) (m : En → Env → Sto → Prop) : TS := liftS ⟨X.K, cls⟩ X.N.length m
section
variable {e a b c tg : Expr} {es : List Expr} {pos : Pos} {ma mb : Env → Sto → QE → Prop} {ms mu : En → Env → Sto → Prop} {st : Stmt} {rest body : List Stmt}
theorem sSs_nil : PSs X [] (LS X cls fun D σ S => D.nx σ S) := pss_nil.le fun N τ H ⟨D, σ, S, rE, rS, h, e⟩ => e.nx _ _ _ _ h (TExt.refl _) rS rE
theorem sSs_cons (h1 : PS X st (LS X cls ms)) (h2 : PSs X rest (LS X cls mu)) : PSs X (st :: rest) (LS X cls fun D σ S => ms { D with nx := fun σ1 S1 => mu D σ1 S1 } σ S) :=
  (pss_cons h1 h2).le fun N τ H ⟨D, σ, S, rE, rS, h, e⟩ => ⟨_, σ, S, rE, rS, h, ⟨fun σ1 S1 τ1 H1 q1 t1 rS1 rE1 => ⟨D, σ1, S1, rE1, rS1, q1, e.go t1⟩, e.bk, e.ct, e.rt⟩⟩
theorem sS_rse {st : Stmt} : PS X st (LS X cls fun _ _ _ => False) := ps_never.le fun N τ H ⟨D, σ, S, rE, rS, h, e⟩ => h.elim
theorem sS_pas : PS X (.Pass pos) (LS X cls fun D σ S => D.nx σ S) := ps_pass.le fun N τ H ⟨D, σ, S, rE, rS, h, e⟩ => e.nx _ _ _ _ h (TExt.refl _) rS rE
theorem sS_brk : PS X (.Break pos) (LS X cls fun D σ S => D.bk σ S) := ps_break.le fun N τ H ⟨D, σ, S, rE, rS, h, e⟩ => e.bk _ _ _ _ h (TExt.refl _) rS rE
theorem sS_cnt : PS X (.Continue pos) (LS X cls fun D σ S => D.ct σ S) := ps_continue.le fun N τ H ⟨D, σ, S, rE, rS, h, e⟩ => e.ct _ _ _ _ h (TExt.refl _) rS rE
theorem sS_exp (hn : noComp a = true) (ha : PE X a (LE X cls ma)) : PS X (.Expr a pos) (LS X cls fun D σ S => ma σ S fun _ S1 => D.nx σ S1) :=
  (ps_expr ha (swaps_none hn)).le fun N τ H ⟨D, σ, S, rE, rS, h, e⟩ => ⟨σ, S, _, rE, rS, h, fun d S1 v H1 q1 t1 rS1 rV1 => e.nx _ _ _ _ q1 t1 rS1 (rE.mono t1)⟩
theorem sS_ret (ha : PE X a (LE X cls ma)) : PS X (.Return (some a) pos) (LS X cls fun D σ S => ma σ S D.rt) :=
  (ps_ret ha).le fun N τ H ⟨D, σ, S, rE, rS, h, e⟩ => ⟨σ, S, _, rE, rS, h, fun d S1 v H1 q1 t1 rS1 rV1 => e.rt _ _ _ _ q1 t1 rS1 rV1⟩
theorem sS_retN : PS X (.Return none pos) (LS X cls fun D _ S => D.rt .non S) :=
  ps_retN.le fun N τ H ⟨D, σ, S, rE, rS, h, e⟩ => e.rt _ _ _ _ h (TExt.refl _) rS .non
theorem sS_iff {mt : Env → Sto → (Bool → Sto → Prop) → Prop} {u w : List Stmt} (hc : PT X c (LT X cls mt)) (ha : PSs X u (LS X cls ms)) (hb : PSs X w (LS X cls mu)) : PS X (.If c u w pos) (LS X cls fun D σ S => mt σ S fun t S1 => (t = true → ms D σ S1) ∧ (t = false → mu D σ S1)) :=
  (ps_if hc ha hb).le fun N τ H ⟨D, σ, S, rE, rS, h, e⟩ => ⟨σ, S, _, rE, rS, h, fun t S1 H1 q1 t1 rS1 => by
    cases t with
    | true => exact ⟨D, σ, S1, rE.mono t1, rS1, q1.1 rfl, e.go t1⟩
    | false => exact ⟨D, σ, S1, rE.mono t1, rS1, q1.2 rfl, e.go t1⟩⟩
theorem sS_whl {mt : Env → Sto → (Bool → Sto → Prop) → Prop} (hp : PassesOwn (model X.prog X.w) X.A X.env X.xe) (hc : PT X c (LT X cls mt)) (hb : PSs X body (LS X cls ms)) : PS X (.While c body [] pos) (LS X cls fun D σ S => ∃ n, loopW mt ms D n σ S) :=
  (ps_while hp hc hb).le fun N τ H ⟨D, σ, S, rE, rS, ⟨n, h⟩, e⟩ => by
    refine ⟨fun m τ' H' => ∃ σ S, RepE ⟨X.K, cls⟩ X.N.length H' σ τ' ∧ RepS ⟨X.K, cls⟩ S H' ∧ TExt H H' ∧ loopW mt ms D m σ S, ⟨n, σ, S, rE, rS, TExt.refl H, h⟩, ?_⟩
    rintro m τ1 H1 ⟨σ1, S1, rE1, rS1, t1, h1⟩
    cases m with
    | zero => exact h1.elim
    | succ m =>
      refine ⟨σ1, S1, _, rE1, rS1, h1, fun t S2 H2 q2 t2 rS2 => ?_⟩
      cases t with
      | true =>
        refine ⟨fun τ' H' => ∃ σ S, RepE ⟨X.K, cls⟩ X.N.length H' σ τ' ∧ RepS ⟨X.K, cls⟩ S H' ∧ TExt H H' ∧ loopW mt ms D m σ S, fun τ' H' z => ⟨m, Nat.lt_succ_self m, z⟩, _, σ1, S2, rE1.mono t2, rS2, q2.1 rfl, ?_⟩
        refine ⟨fun σ3 S3 τ3 H3 ⟨S4, ab, q3⟩ t3 rS3 rE3 => ⟨σ3, S4, rE3, rS3.abs ab, (t1.trans t2).trans t3, q3⟩, fun σ3 S3 τ3 H3 q3 t3 rS3 rE3 => e.nx _ _ _ _ q3 ((t1.trans t2).trans t3) rS3 rE3,
          fun σ3 S3 τ3 H3 ⟨S4, ab, q3⟩ t3 rS3 rE3 => ⟨σ3, S4, rE3, rS3.abs ab, (t1.trans t2).trans t3, q3⟩, fun d S3 v H3 q3 t3 rS3 rV3 => e.rt _ _ _ _ q3 ((t1.trans t2).trans t3) rS3 rV3⟩
      | false => exact e.nx _ _ _ _ (q2.2 rfl) (t1.trans t2) rS2 (rE1.mono t2)
theorem sS_for {mi : Env → Sto → (List D → (Sto → Prop) → Sto → Prop) → Prop} {mg : D → Env → Sto → QS → Prop} {sl : List Nat} {iter : Expr} (hp : PassesOwn (model X.prog X.w) X.A X.env X.xe) (hc : X.calm = true) (hs : noSet iter = true) (hi : PI X tg iter (LI X cls mi)) (hg : PG X tg (LG X cls sl mg)) (hb : PSs X body (LS X cls ms)) :
    PS X (.For tg iter body [] pos) (LS X cls fun D σ S => mi σ S fun ds chk S1 => loopF chk mg ms D ds σ S1) :=
  (ps_for hp hc hi hg hb (folded_of hs)).le fun N τ H ⟨D, σ, S, rE, rS, h, e⟩ => ⟨σ, S, _, rE, rS, h, fun ds chk S1 H1 J q1 t1 rS1 wk => by
    refine ⟨fun i m τ H => m = ds.length - i ∧ i ≤ ds.length ∧ ∃ σ S, RepE ⟨X.K, cls⟩ X.N.length H σ τ ∧ RepS ⟨X.K, cls⟩ S H ∧ TExt H1 H ∧ loopF chk mg ms D (ds.drop i) σ S, ⟨ds.length, rfl, Nat.zero_le _, σ, S1, rE.mono t1, rS1, TExt.refl _, q1⟩, ?_⟩
    rintro i m τ2 H2 ⟨rfl, hi, σ2, S2, rE2, rS2, t2, q2⟩
    by_cases hlt : i < ds.length
    · rw [List.drop_eq_getElem_cons hlt] at q2
      obtain ⟨hk, q2⟩ := q2
      have hd : ds[i]? = some ds[i] := List.getElem?_eq_getElem hlt
      refine .inr ⟨wk.go i H2 S2 _ t2 rS2 hk hd, fun τ' H' => i < ds.length ∧ ∃ σ S, RepE ⟨X.K, cls⟩ X.N.length H' σ τ' ∧ RepS ⟨X.K, cls⟩ S H' ∧ TExt H1 H' ∧ loopF chk mg ms D (ds.drop (i + 1)) σ S, fun τ' H' ⟨_, z⟩ => ⟨ds.length - (i + 1), by omega, rfl, hlt, z⟩, fun x H' y => ?_⟩
      obtain ⟨t3, rS3, rV3⟩ := wk.yld i H2 S2 _ x H' t2 rS2 hk hd y
      refine ⟨ds[i], σ2, S2, _, rE2.mono t3, rS3, rV3, q2, fun σ4 S4 τ4 H4 q4 t4 rS4 rE4 s4 => ?_⟩
      have t24 := (t2.trans t3).trans t4
      refine ⟨_, σ4, S4, rE4, rS4, q4, ?_⟩
      exact ⟨fun σ5 S5 τ5 H5 ⟨S6, ab, q5⟩ t5 rS5 rE5 => ⟨hlt, σ5, S6, rE5, rS5.abs ab, t24.trans t5, q5⟩, fun σ5 S5 τ5 H5 q5 t5 rS5 rE5 => e.nx _ _ _ _ q5 (t1.trans (t24.trans t5)) rS5 rE5,
        fun σ5 S5 τ5 H5 ⟨S6, ab, q5⟩ t5 rS5 rE5 => ⟨hlt, σ5, S6, rE5, rS5.abs ab, t24.trans t5, q5⟩, fun d S5 v H5 q5 t5 rS5 rV5 => e.rt _ _ _ _ q5 (t1.trans (t24.trans t5)) rS5 rV5⟩
    · have ei : i = ds.length := by omega
      subst ei
      rw [List.drop_length] at q2
      exact .inl ⟨wk.stop _ H2 S2 t2 rS2 q2.1 rfl, e.nx _ _ _ _ q2.2 (t1.trans t2) rS2 rE2⟩⟩
/-- an assignment, the target read by PG -/
theorem asg_red {tg : Expr} {te : TE} {sl : List Nat} {mg : D → Env → Sto → QS → Prop} (hle : ∀ τ H Q, LE X cls ma τ H Q → te τ H Q) : ∀ N τ H, LS X cls (fun D σ S => ma σ S fun d S1 => mg d σ S1 D.nx) N τ H → tAsg te (LG X cls sl mg) N τ H :=
  fun N τ H ⟨D, σ, S, rE, rS, h, e⟩ => hle _ _ _ ⟨σ, S, _, rE, rS, h, fun d S1 v H1 q1 t1 rS1 rV1 => ⟨d, σ, S1, _, rE.mono t1, rS1, rV1, q1, fun σ2 S2 τ2 H2 q2 t2 rS2 rE2 _ => e.nx _ _ _ _ q2 (t1.trans t2) rS2 rE2⟩⟩
def noTup : Expr → Bool
  | .Tuple .. => false
  | _ => true
theorem swSt_none {v t : Expr} {env : PySem.Env} (h : noTup v = true) : swappedStores [t] v env = pure none := by
  cases v <;> first | exact absurd h Bool.false_ne_true | (cases t <;> rfl)
theorem swSt_nt {v t : Expr} {env : PySem.Env} (h : noTup t = true) (h2 : (match t with | .List _ _ => false | _ => true) = true) : swappedStores [t] v env = pure none := by
  cases t <;> first | exact absurd h Bool.false_ne_true | exact absurd h2 Bool.false_ne_true | (cases v <;> rfl)
theorem sS_asg {v : Expr} {sl : List Nat} {mg : D → Env → Sto → QS → Prop} (hn : noComp v = true) (hs : noStar tg = true) (hw : swappedStores [tg] v X.env = pure none) (hv : PE X v (LE X cls ma)) (hg : PG X tg (LG X cls sl mg)) : PS X (.Assign [tg] v pos) (LS X cls fun D σ S => ma σ S fun d S1 => mg d σ S1 D.nx) :=
  (ps_asg hv hg (show swapsWithSole [tg] v pos.line X.env = pure false from swaps_none hn) hw (by rw [assign_cons hs]; rfl)).le (asg_red (tg := tg) fun _ _ _ h => h)
theorem nm_red {i : Nat} {x : Str} (hi : X.N[i]? = some x) {te : TE} (hle : ∀ τ H Q, LE X cls ma τ H Q → te τ H Q) : ∀ N τ H, LS X cls (fun D σ S => ma σ S fun d S1 => D.nx (σ.set i (some d)) S1) N τ H → tAsg te (gName i) N τ H :=
  fun N τ H ⟨D, σ, S, rE, rS, h, e⟩ => hle _ _ _ ⟨σ, S, _, rE, rS, h, fun d S1 v H1 q1 t1 rS1 rV1 => by
    have hlt : i < X.N.length := by
      rcases Nat.lt_or_ge i X.N.length with z | z
      · exact z
      · rw [List.getElem?_eq_none z] at hi; cases hi
    exact e.nx _ _ _ _ q1 t1 rS1 ((rE.mono t1).set rV1 i hlt)⟩
theorem sS_nm {i : Nat} {x : Str} {v : Expr} {px : Pos} (hN : X.N.Nodup) (hi : X.N[i]? = some x) (hx : Loc X.env.scope x) (hf : X.fn x = true ∨ X.env.scope.names.lookup x = some .local) (hn : noComp v = true) (hv : PE X v (LE X cls ma)) : PS X (.Assign [.Name x px] v pos) (LS X cls fun D σ S => ma σ S fun d S1 => D.nx (σ.set i (some d)) S1) :=
  (ps_set hN hi hx hv (swaps_none hn) hf).le (nm_red hi fun _ _ _ h => h)
theorem sS_fld (ok : Ok P cls k X) {f : String} {v o : Expr} {p2 : Pos} (hf : f ≠ "") (hn : noComp v = true) (ha : PE X o (LE X cls ma)) (hv : PE X v (LE X cls mb)) : PS X (.Assign [.Attribute o (Str.ofString f) p2] v pos) (LS X cls fun D σ S => mb σ S fun d S1 => ma σ S1 fun u S2 => setFM P.fl u f d S2 fun S3 => D.nx σ S3) :=
  (ps_fld ha hv (swaps_none hn)).le fun N τ H ⟨D, σ, S, rE, rS, h, e⟩ => ⟨σ, S, _, rE, rS, h, fun d S1 v H1 q1 t1 rS1 rV1 => ⟨σ, S1, _, rE.mono t1, rS1, q1, fun u S2 x H2 q2 t2 rS2 rV2 => by
    unfold setFM at q2
    split at q2
    · cases rV2
      split at q2
      · rename_i cn fs hS
        obtain ⟨hfl, hz, q2⟩ := q2
        obtain ⟨dx, vs, h2, h3⟩ := (show ∃ dx vs, H2 _ = some (.ins (cls cn) dx vs) ∧ RepF ⟨X.K, cls⟩ H2 fs vs from rS2 _ _ hS)
        obtain ⟨k1, k2⟩ := ok.clsF.fld cn f hfl hf
        have t3 := TExt.write (o := .ins (cls cn) dx (putF (Str.ofString f) v vs)) (rS2.notup hS)
        have rS3 := rS2.write hS (ho := .ins (cls cn) dx (putF (Str.ofString f) v vs)) (o := .ins cn (putFd f d fs)) (show ∃ dx vs, _ ∧ _ from ⟨_, _, upd_same, ((h3.mono t3).put ((rV1.mono t2).mono t3))⟩)
        exact ⟨_, _, dx, vs, rfl, h2, k2, k1, by rw [← h3.length]; exact hz, e.nx _ _ _ _ q2 ((t1.trans t2).trans t3) rS3 (((rE.mono t1).mono t2).mono t3)⟩
      · exact q2.elim
    · exact q2.elim⟩⟩
theorem op_aug (o : Op2) : OpR X (inplaceOp (opOf o)) (liftR2 ⟨X.K, cls⟩ (augM o)) := by
  intro pins s σ H x y v u Q I r1 r2 ⟨d, e, S, Q0, rd, re, rS, q, c⟩
  cases o <;> cases d <;> cases e <;> first | exact q.elim | skip
  · cases rd; cases re
    exact iop_add pins s σ H _ _ v u Q I r1 r2 ⟨_, _, rfl, rfl, c _ _ _ _ q (TExt.refl H) rS (.int _)⟩
  · cases rd; cases re
    exact iop_add_str pins s σ H _ _ v u Q I r1 r2 ⟨_, _, rfl, rfl, q.1, c _ _ _ _ q.2 (TExt.refl H) rS (.str _)⟩
  · cases rd; cases re
    exact iop_sub pins s σ H _ _ v u Q I r1 r2 ⟨_, _, rfl, rfl, c _ _ _ _ q (TExt.refl H) rS (.int _)⟩
theorem sS_aug {i : Nat} {x : Str} {o : Op2} {p2 : Pos} (hN : X.N.Nodup) (hi : X.N[i]? = some x) (hx : Loc X.env.scope x) (hf : X.fn x = true ∨ X.env.scope.names.lookup x = some .local) (hv : PE X a (LE X cls ma)) : PS X (.AugAssign (.Name x p2) (opOf o) a pos)
    (LS X cls fun D σ S => slot σ i fun u => ma σ S fun v S1 => augM o u v S1 fun w S2 => D.nx (σ.set i (some w)) S2) :=
  (ps_aug hN hi hx hv (op_aug (cls := cls) o) hf).le fun N τ H ⟨D, σ, S, rE, rS, h, e⟩ => by
    replace h : slot σ i (fun u => ma σ S fun v S1 => augM o u v S1 fun w S2 => D.nx (σ.set i (some w)) S2) := h
    unfold slot at h
    split at h
    · rename_i d hd
      obtain ⟨v, h1, h2⟩ := rE.2 i d hd
      refine ⟨v, h1, σ, S, _, rE, rS, h, fun w S1 y H1 q1 t1 rS1 rV1 => ?_⟩
      refine ⟨d, w, S1, _, h2.mono t1, rV1, rS1, q1, fun z S2 u H2 q2 t2 rS2 rV2 => ?_⟩
      have hlt : i < X.N.length := by
        rcases Nat.lt_or_ge i X.N.length with z | z
        · exact z
        · rw [List.getElem?_eq_none z] at hi; cases hi
      exact e.nx _ _ _ _ q2 (t1.trans t2) rS2 (((rE.mono t1).mono t2).set rV2 i hlt)
    · exact h.elim
theorem sS_fla (ok : Ok P cls k X) {f : String} {o : Expr} {op : Op2} {p2 : Pos} (hf : f ≠ "") (ha : PE X o (LE X cls ma)) (hv : PE X a (LE X cls mb)) : PS X (.AugAssign (.Attribute o (Str.ofString f) p2) (opOf op) a pos) (LS X cls fun D σ S => ma σ S fun u S1 => match u with
    | .ref a => (match S1 a with
      | some (.ins c fs) => P.fl c f = true ∧ (match fs.lookup f with
        | some v => mb σ S1 fun w S3 => augM op v w S3 fun z S4 => match S4 a with
          | some (.ins c' fs') => c' = c ∧ fs'.length < 1000 ∧ D.nx σ (S4.put a (.ins c (putFd f z fs')))
          | _ => False
        | none => False)
      | _ => False)
    | _ => False) :=
  (ps_fldaug ha hv (op_aug (cls := cls) op)).le fun N τ H ⟨D, σ, S, rE, rS, h, e⟩ => ⟨σ, S, _, rE, rS, h, fun u S1 x H1 q1 t1 rS1 rV1 => by
    split at q1
    · cases rV1
      split at q1
      · rename_i cn fs hS
        obtain ⟨hfl, q1⟩ := q1
        split at q1
        · rename_i d hd
          obtain ⟨dx, vs, h2, h3⟩ := (show ∃ dx vs, H1 _ = some (.ins (cls cn) dx vs) ∧ RepF ⟨X.K, cls⟩ H1 fs vs from rS1 _ _ hS)
          obtain ⟨k1, k2⟩ := ok.clsF.fld cn f hfl hf
          obtain ⟨v, h4, h5⟩ := h3.some hd
          refine ⟨_, _, dx, vs, v, rfl, h2, k2, k1, h4, σ, S1, _, rE.mono t1, rS1, q1, fun w S3 y H3 q3 t3 rS3 rV3 => ?_⟩
          refine ⟨d, w, S3, _, h5.mono t3, rV3, rS3, q3, fun z S4 u H4 q4 t4 rS4 rV4 => ?_⟩
          split at q4
          · rename_i c' fs' hS4
            obtain ⟨rfl, hz, q4⟩ := q4
            obtain ⟨dx', vs', k3, k4⟩ := (show ∃ dx vs, H4 _ = some (.ins (cls c') dx vs) ∧ RepF ⟨X.K, cls⟩ H4 fs' vs from rS4 _ _ hS4)
            have t5 := TExt.write (o := .ins (cls c') dx' (putF (Str.ofString f) u vs')) (rS4.notup hS4)
            have rS5 := rS4.write hS4 (ho := .ins (cls c') dx' (putF (Str.ofString f) u vs')) (o := .ins c' (putFd f z fs')) (show ∃ dx vs, _ ∧ _ from ⟨_, _, upd_same, ((k4.mono t5).put (rV4.mono t5))⟩)
            exact ⟨dx', vs', k3, by rw [← k4.length]; exact hz, e.nx _ _ _ _ q4 (((t1.trans t3).trans t4).trans t5) rS5 ((((rE.mono t1).mono t3).mono t4).mono t5)⟩
          · exact q4.elim
        · exact q1.elim
      · exact q1.elim
    · exact q1.elim⟩
end
end Lr

set_option Elab.async false
set_option linter.all false
set_option maxRecDepth 100000
set_option maxHeartbeats 8000000
/-! part 10: the small syntax is simulated -/
namespace Lr
open PySem PySem.Spec PyProof.Rows L2
variable {P : Prog} {cls : String → Addr} {k : Nat}
theorem swSt_of {env : PySem.Env} (hk : env.scope.kind = .function) {ts vs : List Expr} {r : Option (List Str)} {k1 k2 : Nat} {p1 p2 : Pos} (h : swapNames env.scope ts vs = some r) : swappedStores [.Tuple ts k1 p1] (.Tuple vs k2 p2) env = pure r := by
  have hb : env.blockKind = .function := by unfold Env.blockKind; rw [hk]; rfl
  unfold swapNames at h
  unfold swappedStores
  simp only [hb]
  have hne : (ScopeKind.function != ScopeKind.function) = false := rfl
  simp only [hne, Bool.or_false]
  split at h
  · rename_i c; cases h; rw [if_pos (by simpa using c)]
  · rename_i c
    rw [if_neg (by simpa using c)]
    split at h
    · rename_i c; cases h; exact if_pos c
    · rename_i c
      refine (if_neg c).trans ?_
      dsimp only at h ⊢
      split at h
      · rename_i c; cases h; exact if_pos c
      · rename_i c
        refine (if_neg c).trans ?_
        split at h
        · rename_i c; cases h; exact if_pos c
        · rename_i c
          refine (if_neg c).trans ?_
          split at h
          · cases h
          · rename_i c; cases h; exact if_neg c
section
variable {X : L2.Cx} {a b c : Expr} {pos : Pos} {mr : Env → Sto → (List D → Sto → Prop) → Prop}
theorem ix_lt {i : Nat} {x : Str} (hi : X.N[i]? = some x) : i < X.N.length := by
  rcases Nat.lt_or_ge i X.N.length with z | z
  · exact z
  · rw [List.getElem?_eq_none z] at hi; cases hi
theorem loc0_of {sc : Scope} {x : Str} (h : isL0 sc x = true) : sc.names.lookup x = some .local := by
  unfold isL0 at h
  split at h
  · rename_i e; exact e
  · cases h
theorem sS_par2 {C : Ctx} {i j : Nat} {x y : Str} {px py pt pt2 : Pos} {kt k2 : Nat} (hc : X.calm = true) (hN : X.N.Nodup) (hi : X.N[i]? = some x) (hj : X.N[j]? = some y) (hij : i ≠ j) (hx : X.env.scope.names.lookup x = some .local) (hy : X.env.scope.names.lookup y = some .local)
    (hw : swappedStores [.Tuple [.Name x px, .Name y py] kt pt] (.Tuple [a, b] k2 pt2) X.env = pure (some [x, y])) (ha : PA X [a, b] (LA X cls 2 mr)) :
    PS X (.Assign [.Tuple [.Name x px, .Name y py] kt pt] (.Tuple [a, b] k2 pt2) pos) (LS X cls fun D σ S => mr σ S fun ds S1 => wpG C xN (.tp (.cons (.nm i) (.cons (.nm j) .nil))) (.tup ds) σ S1 D.nx) :=
  (ps_par hc hN hi hj hij hx hy ha hw).le fun N τ H ⟨D, σ, S, rE, rS, h, e⟩ => lift_args rE rS h fun ds S1 vs H1 q1 t1 rS1 rV1 hl => by
    obtain ⟨hlen, q1⟩ := q1
    cases rV1 with
    | nil => cases hlen
    | cons r1 r2 =>
      cases r2 with
      | nil => cases hlen
      | cons r2 r3 =>
        cases r3 with
        | cons _ _ => cases hl
        | nil =>
          obtain ⟨_, q1⟩ := q1
          exact ⟨_, _, rfl, e.nx _ _ _ _ q1 t1 rS1 (((rE.mono t1).set r1 i (ix_lt hi)).set r2 j (ix_lt hj))⟩
theorem sS_par3 {C : Ctx} {i j l : Nat} {x y z : Str} {px py pz pt pt2 : Pos} {kt k2 : Nat} (hc : X.calm = true) (hN : X.N.Nodup) (hi : X.N[i]? = some x) (hj : X.N[j]? = some y) (hl : X.N[l]? = some z) (hij : i ≠ j) (hil : i ≠ l) (hjl : j ≠ l) (hx : X.env.scope.names.lookup x = some .local) (hy : X.env.scope.names.lookup y = some .local) (hz : X.env.scope.names.lookup z = some .local)
    (hw : swappedStores [.Tuple [.Name x px, .Name y py, .Name z pz] kt pt] (.Tuple [a, b, c] k2 pt2) X.env = pure (some [x, y, z])) (ha : PA X [a, b, c] (LA X cls 3 mr)) :
    PS X (.Assign [.Tuple [.Name x px, .Name y py, .Name z pz] kt pt] (.Tuple [a, b, c] k2 pt2) pos) (LS X cls fun D σ S => mr σ S fun ds S1 => wpG C xN (.tp (.cons (.nm i) (.cons (.nm j) (.cons (.nm l) .nil)))) (.tup ds) σ S1 D.nx) :=
  (ps_par3 hc hN hi hj hl hij hil hjl hx hy hz ha hw).le fun N τ H ⟨D, σ, S, rE, rS, h, e⟩ => lift_args rE rS h fun ds S1 vs H1 q1 t1 rS1 rV1 hll => by
    obtain ⟨hlen, q1⟩ := q1
    cases rV1 with
    | nil => cases hlen
    | cons r1 r2 =>
      cases r2 with
      | nil => cases hlen
      | cons r2 r3 =>
        cases r3 with
        | nil => cases hlen
        | cons r3 r4 =>
          cases r4 with
          | cons _ _ => cases hll
          | nil =>
            obtain ⟨_, q1⟩ := q1
            exact ⟨_, _, _, rfl, e.nx _ _ _ _ q1 t1 rS1 ((((rE.mono t1).set r1 i (ix_lt hi)).set r2 j (ix_lt hj)).set r3 l (ix_lt hl))⟩
end
/-- the cells that a target may store to -/
def FbOk (X : L2.Cx) (fb : Str → Bool) : Prop := ∀ x, X.env.scope.names.lookup x = some .cell → fb x = true → X.fn x = true
theorem blk_ok {X : L2.Cx} {s : Shared} {H : Hp} {scope : Scope} {C : Addr} {cl : List (Str × Addr)} {fp : List Addr} : FbOk (X.blk s H scope (compEnvC scope cl C X.env) fp) (fun x => scope.names.lookup x == some .cell) := fun x _ h => h
theorem eqOf {x y : Str} (h : (x == y) = true) : x = y := eq_of_beq h
theorem PE_false {X : L2.Cx} {e : Expr} : PE X e (LE X cls fun _ _ _ => False) := ⟨fun _ _ _ _ _ _ ⟨_, _, _, _, _, q, _⟩ => q.elim⟩
theorem PW_false {X : L2.Cx} {e : Expr} : PW X e (LT X cls fun _ _ _ => False) := ⟨fun _ _ _ _ _ _ _ ⟨_, _, _, _, _, q, _⟩ => q.elim⟩
def opK (op : BoolOp) (kk : Bool) : Bool := match op with
  | .And => kk
  | .Or => !kk
structure LcM (X : L2.Cx) (fb : Str → Bool) (el : E) (tg : Tg) (it : I) (cs : Tts) (own : List Nat) (e t i : Expr) (ifs : List Expr) (scope : Scope) : Prop where
  ns : noSet i = true
  hit : mI X.N it X.env.scope fb i = true
  bk : blkC X.N X.env.scope scope (ownP X.N own) = true
  sl : subL (tgSlots tg) own = true
  tt : isTupT it t = true
  htg : mG X.N tg (relab scope X.env.scope) (fun x => scope.names.lookup x == some .cell) t = true
  hcs : mCs X.N cs (relab scope X.env.scope) (fun x => scope.names.lookup x == some .cell) ifs = true
  hel : mE X.N el (relab scope X.env.scope) (fun x => scope.names.lookup x == some .cell) e = true
theorem lcM_of {X : L2.Cx} {fb : Str → Bool} {el : E} {tg : Tg} {it : I} {cs : Tts} {own : List Nat} {e t i : Expr} {ifs : List Expr} {scope : Scope} {as : Int} {p : Pos} (h : mE X.N (.lc el tg it cs own) X.env.scope fb (.ListComp e [⟨t, i, ifs, as⟩] scope p) = true) : as = 0 ∧ LcM X fb el tg it cs own e t i ifs scope := by
  have h : (as == 0 && noSet i && mI X.N it X.env.scope fb i && blkC X.N X.env.scope scope (ownP X.N own) && subL (tgSlots tg) own && isTupT it t &&
      mG X.N tg (relab scope X.env.scope) (fun x => scope.names.lookup x == some .cell) t && mCs X.N cs (relab scope X.env.scope) (fun x => scope.names.lookup x == some .cell) ifs && mE X.N el (relab scope X.env.scope) (fun x => scope.names.lookup x == some .cell) e) = true := h
  simp only [Bool.and_eq_true] at h
  obtain ⟨⟨⟨⟨⟨⟨⟨⟨h0, h1⟩, h2⟩, h3⟩, h4⟩, h5⟩, h6⟩, h7⟩, h8⟩ := h
  exact ⟨eq_of_beq h0, h1, h2, h3, h4, h5, h6, h7, h8⟩
def tgL (t : Tg) : List Nat := (tgSlots t).getD []
def tgsL (t : Tgs) : List Nat := (tgsSlots t).getD []
theorem PTs_le {X : L2.Cx} {e : List Expr} {t t' : TT} (h : PTs X e t) (l : ∀ σ H Q, t' σ H Q → t σ H Q) : PTs X e t' := ⟨fun pins s σ H Q I q => h.run pins s σ H Q I (l σ H Q q)⟩
mutual
theorem tgs_some : ∀ t : Tg, tgSlots t = some (tgL t)
  | .nm i => rfl
  | .tp ts => by
    have := tgss_some ts
    show tgsSlots ts = some ((tgsSlots ts).getD [])
    rw [this]; rfl
  | .ix _ _ => rfl
  | .at _ _ => rfl
theorem tgss_some : ∀ t : Tgs, tgsSlots t = some (tgsL t)
  | .nil => rfl
  | .cons t r => by
    have h1 := tgs_some t
    have h2 := tgss_some r
    unfold tgsL
    simp only [tgsSlots, h1, h2, Option.getD_some]
end
theorem tgsL_cons {t : Tg} {r : Tgs} : tgsL (.cons t r) = tgL t ++ tgsL r := by
  show (tgsSlots (.cons t r)).getD [] = _
  simp only [tgsSlots, tgs_some t, tgss_some r, Option.getD_some]
theorem subL_of {t : Option (List Nat)} {l own : List Nat} (e : t = some l) (h : subL t own = true) : ∀ i ∈ l, i ∈ own := by
  subst e
  have h : (l.all fun i => own.contains i) = true := h
  intro i hi
  have := List.all_eq_true.mp h i hi
  exact List.contains_iff_mem.mp this
mutual
theorem simE : ∀ (e : E) {X : L2.Cx} {fb : Str → Bool} (ok : Ok P cls k X) (hfb : FbOk X fb) (pe : Expr), mE X.N e X.env.scope fb pe = true → PE X pe (LE X cls (wpE (ctx P k) xN e))
  | .var i, X, fb, ok, hfb, pe, h => by
    cases pe <;> first | exact absurd h Bool.false_ne_true | skip
    rename_i x p
    have h : (X.N[i]? == some x && isVis X.env.scope x && okName x) = true := h
    simp only [Bool.and_eq_true] at h
    exact sE_var (ix_of h.1.1) (vis_of h.1.2) h.2
  | .glb n, X, fb, ok, hfb, pe, h => by
    cases pe <;> first | exact absurd h Bool.false_ne_true | skip
    rename_i x p
    have h : ((x == Str.ofString n) && isGl X.env.scope x && okName x) = true := h
    simp only [Bool.and_eq_true] at h
    obtain ⟨⟨h0, h1⟩, h2⟩ := h
    cases eqOf h0
    exact sE_glb ok h1 h2
  | .int i, X, fb, ok, hfb, pe, h => by
    cases pe <;> first | exact absurd h Bool.false_ne_true | skip
    rename_i v kk p
    cases v <;> first | exact absurd h Bool.false_ne_true | skip
    rename_i j
    have h : (i == j) = true := h
    cases eq_of_beq h
    exact sE_const pe_int fun _ => .int _
  | .bl i, X, fb, ok, hfb, pe, h => by
    cases pe <;> first | exact absurd h Bool.false_ne_true | skip
    rename_i v kk p
    cases v <;> first | exact absurd h Bool.false_ne_true | skip
    rename_i j
    have h : (i == j) = true := h
    cases eq_of_beq h
    exact sE_const pe_bl fun _ => .bl _
  | .str i, X, fb, ok, hfb, pe, h => by
    cases pe <;> first | exact absurd h Bool.false_ne_true | skip
    rename_i v kk p
    cases v <;> first | exact absurd h Bool.false_ne_true | skip
    rename_i j
    have h : (Str.ofString i == j) = true := h
    cases eqOf h
    exact sE_const pe_str fun _ => .str _
  | .non, X, fb, ok, hfb, pe, h => by
    cases pe <;> first | exact absurd h Bool.false_ne_true | skip
    rename_i v kk p
    cases v <;> first | exact absurd h Bool.false_ne_true | skip
    exact sE_const pe_non fun _ => .non
  | .bin o a b, X, fb, ok, hfb, pe, h => by
    cases pe <;> first | exact absurd h Bool.false_ne_true | skip
    rename_i l op r p
    have h : (opEq o op && mE X.N a X.env.scope fb l && mE X.N b X.env.scope fb r) = true := h
    simp only [Bool.and_eq_true] at h
    cases opEq_of h.1.1
    exact sE_bin (simE a ok hfb l h.1.2) (simE b ok hfb r h.2)
  | .neg a, X, fb, ok, hfb, pe, h => by
    cases pe <;> first | exact absurd h Bool.false_ne_true | skip
    rename_i op e p
    cases op <;> first | exact absurd h Bool.false_ne_true | skip
    have h : mE X.N a X.env.scope fb e = true := h
    exact sE_neg (simE a ok hfb e h)
  | .not a, X, fb, ok, hfb, pe, h => by
    cases pe <;> first | exact absurd h Bool.false_ne_true | skip
    rename_i op e p
    cases op <;> first | exact absurd h Bool.false_ne_true | skip
    have h : mE X.N a X.env.scope fb e = true := h
    exact sE_not (simE a ok hfb e h)
  | .cmp o a b, X, fb, ok, hfb, pe, h => by
    cases pe <;> first | exact absurd h Bool.false_ne_true | skip
    rename_i l ops rs p
    rcases ops with _ | ⟨op, _ | ⟨_, _⟩⟩ <;> rcases rs with _ | ⟨r, _ | ⟨_, _⟩⟩ <;> first | exact absurd h Bool.false_ne_true | skip
    have h : (cmpEq o op && noSet r && mE X.N a X.env.scope fb l && mE X.N b X.env.scope fb r) = true := h
    simp only [Bool.and_eq_true] at h
    cases cmpEq_of h.1.1.1
    exact sE_cmp ok h.1.1.2 (simE a ok hfb l h.1.2) (simE b ok hfb r h.2)
  | .chn o q a b c, X, fb, ok, hfb, pe, h => by
    cases pe <;> first | exact absurd h Bool.false_ne_true | skip
    rename_i l ops rs p
    rcases ops with _ | ⟨op, _ | ⟨op', _ | ⟨_, _⟩⟩⟩ <;> rcases rs with _ | ⟨r, _ | ⟨s, _ | ⟨_, _⟩⟩⟩ <;> first | exact absurd h Bool.false_ne_true | skip
    have h : (cmpEq o op && cmpEq q op' && noSet r && noSet s && mE X.N a X.env.scope fb l && mE X.N b X.env.scope fb r && mE X.N c X.env.scope fb s) = true := h
    simp only [Bool.and_eq_true] at h
    obtain ⟨⟨⟨⟨⟨⟨h1, h2⟩, h3⟩, h4⟩, h5⟩, h6⟩, h7⟩ := h
    cases cmpEq_of h1
    cases cmpEq_of h2
    exact sE_chn ok h4 (simE a ok hfb l h5) (simE b ok hfb r h6) (simE c ok hfb s h7)
  | .bop kk es, X, fb, ok, hfb, pe, h => by
    cases pe <;> first | exact absurd h Bool.false_ne_true | skip
    rename_i op vs p
    have h : (opK op kk && mEs X.N es X.env.scope fb vs) = true := h
    rw [Bool.and_eq_true] at h
    exact simB es ok hfb vs h.2 op kk p h.1
  | .ite c a b, X, fb, ok, hfb, pe, h => by
    cases pe <;> first | exact absurd h Bool.false_ne_true | skip
    rename_i t e f p
    have h : (mT X.N c X.env.scope fb t && mE X.N a X.env.scope fb e && mE X.N b X.env.scope fb f) = true := h
    simp only [Bool.and_eq_true] at h
    exact sE_ite (simT c ok hfb t h.1.1) (simE a ok hfb e h.1.2) (simE b ok hfb f h.2)
  | .tup es, X, fb, ok, hfb, pe, h => by
    cases pe <;> first | exact absurd h Bool.false_ne_true | skip
    rename_i vs kk p
    have h : (decide (vs.length ≤ 1000) && mEs X.N es X.env.scope fb vs) = true := h
    rw [Bool.and_eq_true] at h
    exact sE_tup (simEs es ok hfb vs h.2) (of_decide_eq_true h.1)
  | .key es, X, fb, ok, hfb, pe, h => by
    cases pe <;> first | exact absurd h Bool.false_ne_true | skip
    rename_i vs kk p
    have h : (decide (vs.length ≤ 1000) && mEs X.N es X.env.scope fb vs) = true := h
    rw [Bool.and_eq_true] at h
    exact sE_key (simEs es ok hfb vs h.2) (of_decide_eq_true h.1)
  | .lst es, X, fb, ok, hfb, pe, h => by
    cases pe <;> first | exact absurd h Bool.false_ne_true | skip
    rename_i vs p
    have h : (decide (vs.length ≤ 1000) && mEs X.N es X.env.scope fb vs) = true := h
    rw [Bool.and_eq_true] at h
    exact sE_lst (simEs es ok hfb vs h.2) (of_decide_eq_true h.1)
  | .dnew t, X, fb, ok, hfb, pe, h => by
    cases pe <;> first | exact absurd h Bool.false_ne_true | skip
    rename_i ks vs p
    cases ks <;> cases vs <;> first | exact absurd h Bool.false_ne_true | skip
    exact sE_dnew t
  | .dit a b, X, fb, ok, hfb, pe, h => by
    cases pe <;> first | exact absurd h Bool.false_ne_true | skip
    rename_i ks vs p
    rcases ks with _ | ⟨_ | kk, _ | ⟨_, _⟩⟩ <;> rcases vs with _ | ⟨vv, _ | ⟨_, _⟩⟩ <;> first | exact absurd h Bool.false_ne_true | skip
    have h : (mE X.N a X.env.scope fb kk && mE X.N b X.env.scope fb vv) = true := h
    rw [Bool.and_eq_true] at h
    exact sE_dit (simE a ok hfb kk h.1) (simE b ok hfb vv h.2)
  | .idx a b, X, fb, ok, hfb, pe, h => by
    cases pe <;> first | exact absurd h Bool.false_ne_true | skip
    rename_i v i p
    have h : (noSlice i && mE X.N a X.env.scope fb v && mE X.N b X.env.scope fb i) = true := h
    simp only [Bool.and_eq_true] at h
    exact sE_idx ok h.1.1 (simE a ok hfb v h.1.2) (simE b ok hfb i h.2)
  | .sli a lo hi, X, fb, ok, hfb, pe, h => by
    cases pe <;> first | exact absurd h Bool.false_ne_true | skip
    rename_i v i p
    cases i <;> first | exact absurd h Bool.false_ne_true | skip
    rename_i l u s p2
    cases s <;> first | exact absurd h Bool.false_ne_true | skip
    have h : (mE X.N a X.env.scope fb v && mO X.N lo X.env.scope fb l && mO X.N hi X.env.scope fb u) = true := h
    simp only [Bool.and_eq_true] at h
    exact sE_sli (simE a ok hfb v h.1.1) (simO lo ok hfb l h.1.2) (simO hi ok hfb u h.2)
  | .slr a, X, fb, ok, hfb, pe, h => by
    cases pe <;> first | exact absurd h Bool.false_ne_true | skip
    rename_i v i p
    cases i <;> first | exact absurd h Bool.false_ne_true | skip
    rename_i l u s p2
    cases l <;> cases u <;> cases s <;> first | exact absurd h Bool.false_ne_true | skip
    rename_i s
    cases s <;> first | exact absurd h Bool.false_ne_true | skip
    rename_i op e p3
    cases op <;> cases e <;> first | exact absurd h Bool.false_ne_true | skip
    rename_i cv kk p4
    cases cv <;> first | exact absurd h Bool.false_ne_true | skip
    rename_i n
    have h : (n == 1 && mE X.N a X.env.scope fb v) = true := h
    rw [Bool.and_eq_true] at h
    cases eq_of_beq h.1
    exact sE_slr (simE a ok hfb v h.2)
  | .cal f es, X, fb, ok, hfb, pe, h => by
    cases pe <;> first | exact absurd h Bool.false_ne_true | skip
    rename_i fn vs kws p
    cases fn <;> cases kws <;> first | exact absurd h Bool.false_ne_true | skip
    rename_i x p2
    have h : ((x == Str.ofString f) && isGl X.env.scope x && okName x && mEs X.N es X.env.scope fb vs) = true := h
    simp only [Bool.and_eq_true] at h
    obtain ⟨⟨⟨h0, h1⟩, h2⟩, h3⟩ := h
    cases eqOf h0
    cases vs with
    | nil =>
      cases es with
      | nil => exact sE_cal0 ok h1 h2
      | cons _ _ => exact absurd h3 Bool.false_ne_true
    | cons v vs => exact sE_cal ok h1 h2 (mEs_star h3) (simEs es ok hfb _ h3)
  | .cald f es, X, fb, ok, hfb, pe, h => by
    cases pe <;> first | exact absurd h Bool.false_ne_true | skip
    rename_i fn vs kws p
    cases fn <;> cases kws <;> first | exact absurd h Bool.false_ne_true | skip
    rename_i x p2
    have h : ((x == Str.ofString f) && isGl X.env.scope x && okName x && mEs X.N es X.env.scope fb vs) = true := h
    simp only [Bool.and_eq_true] at h
    obtain ⟨⟨⟨h0, h1⟩, h2⟩, h3⟩ := h
    cases eqOf h0
    cases vs with
    | nil =>
      cases es with
      | nil => exact sE_cald0 ok h1 h2
      | cons _ _ => exact absurd h3 Bool.false_ne_true
    | cons v vs => exact sE_cald ok h1 h2 (mEs_star h3) (simEs es ok hfb _ h3)
  | .met c m f o es, X, fb, ok, hfb, pe, h => by
    cases pe <;> first | exact absurd h Bool.false_ne_true | skip
    rename_i fn vs kws p
    cases fn <;> cases kws <;> first | exact absurd h Bool.false_ne_true | skip
    rename_i v x ap
    have h : ((x == Str.ofString m) && noCall0 v && (ap.endLine == p.line) && decide (vs.length < 30) && mE X.N o X.env.scope fb v && mEs X.N es X.env.scope fb vs) = true := h
    simp only [Bool.and_eq_true] at h
    obtain ⟨⟨⟨⟨⟨h0, h1⟩, h2⟩, h3⟩, h4⟩, h5⟩ := h
    cases eqOf h0
    cases vs with
    | nil =>
      cases es with
      | nil => exact sE_met0 ok h1 h2 (simE o ok hfb v h4)
      | cons _ _ => exact absurd h5 Bool.false_ne_true
    | cons w vs => exact sE_met ok h1 h2 (of_decide_eq_true h3) (simE o ok hfb v h4) (mEs_star h5) (simEs es ok hfb _ h5)
  | .mak c f es, X, fb, ok, hfb, pe, h => by
    cases pe <;> first | exact absurd h Bool.false_ne_true | skip
    rename_i fn vs kws p
    cases fn <;> cases kws <;> first | exact absurd h Bool.false_ne_true | skip
    rename_i x p2
    have h : ((x == Str.ofString c) && isGl X.env.scope x && okName x && mEs X.N es X.env.scope fb vs) = true := h
    simp only [Bool.and_eq_true] at h
    obtain ⟨⟨⟨h0, h1⟩, h2⟩, h3⟩ := h
    cases eqOf h0
    cases vs with
    | nil =>
      cases es with
      | nil => exact sE_mak0 ok h1 h2
      | cons _ _ => exact absurd h3 Bool.false_ne_true
    | cons v vs => exact sE_mak ok h1 h2 (mEs_star h3) (simEs es ok hfb _ h3)
  | .blt f es, X, fb, ok, hfb, pe, h => by
    cases pe <;> first | exact absurd h Bool.false_ne_true | skip
    rename_i fn vs kws p
    cases fn <;> cases kws <;> first | exact absurd h Bool.false_ne_true | skip
    rename_i x p2
    have h : (bfIs f x && isGl X.env.scope x && okName x && !vs.isEmpty && mEs X.N es X.env.scope fb vs) = true := h
    simp only [Bool.and_eq_true] at h
    obtain ⟨⟨⟨⟨h0, h1⟩, h2⟩, h3⟩, h4⟩ := h
    unfold bfIs at h0
    split at h0
    · rename_i n fv hf
      cases eqOf h0
      cases vs with
      | nil => cases h3
      | cons v vs => exact sE_blt ok hf h1 h2 (mEs_star h4) (simEs es ok hfb _ h4)
    · cases h0
  | .bm m o es, X, fb, ok, hfb, pe, h => by
    cases pe <;> first | exact absurd h Bool.false_ne_true | skip
    rename_i fn vs kws p
    cases fn <;> cases kws <;> first | exact absurd h Bool.false_ne_true | skip
    rename_i v x ap
    have h : (bmIs m x && noCall0 v && (ap.endLine == p.line) && decide (vs.length < 30) && mE X.N o X.env.scope fb v && mEs X.N es X.env.scope fb vs) = true := h
    simp only [Bool.and_eq_true] at h
    obtain ⟨⟨⟨⟨⟨h0, h1⟩, h2⟩, h3⟩, h4⟩, h5⟩ := h
    unfold bmIs at h0
    split at h0
    · rename_i n id hm
      cases eqOf h0
      cases vs with
      | nil =>
        cases es with
        | nil => exact sE_bm0 ok hm h1 h2 (simE o ok hfb v h4)
        | cons _ _ => exact absurd h5 Bool.false_ne_true
      | cons w vs => exact sE_bm ok hm h1 h2 (of_decide_eq_true h3) (simE o ok hfb v h4) (mEs_star h5) (simEs es ok hfb _ h5)
    · cases h0
  | .fld o f, X, fb, ok, hfb, pe, h => by
    cases pe <;> first | exact absurd h Bool.false_ne_true | skip
    rename_i v x p
    have h : ((x == Str.ofString f) && !(f == "") && noCall0 v && mE X.N o X.env.scope fb v) = true := h
    simp only [Bool.and_eq_true, Bool.not_eq_true', beq_eq_false_iff_ne] at h
    cases eqOf h.1.1.1
    exact sE_fld ok h.1.1.2 h.1.2 (simE o ok hfb v h.2)
  | .lc el tg it cs own, X, fb, ok, hfb, pe, h => by
    cases pe <;> first | exact absurd h Bool.false_ne_true | skip
    rename_i e gs scope p
    rcases gs with _ | ⟨⟨t, i, ifs, as⟩, _ | ⟨_, _⟩⟩ <;> first | exact absurd h Bool.false_ne_true | skip
    obtain ⟨h0, hm⟩ := lcM_of h
    subst h0
    exact (pe_lc ok.calm ok.nd (simI it ok hfb t i hm.hit hm.tt) (blkOk_by hm.bk) (fun s H C cl fp => (simG tg (ok.blk s H scope (compEnvC scope cl C X.env) fp) blk_ok t hm.htg).2) (fun s H C cl fp => simCs cs (ok.blk s H scope (compEnvC scope cl C X.env) fp) blk_ok ifs hm.hcs) (fun s H C cl fp => simE el (ok.blk s H scope (compEnvC scope cl C X.env) fp) blk_ok e hm.hel) (folded_of hm.ns)).le (fun τ H Q q => by
        rw [own_ix (N := X.N)]
        exact lift_lc (subL_of (tgs_some tg) hm.sl) τ H Q q)
  | .tr1 a, X, fb, ok, hfb, pe, h => by
    cases pe <;> first | exact absurd h Bool.false_ne_true | skip
    rename_i fn vs kws p
    cases fn <;> first | exact absurd h Bool.false_ne_true | skip
    rename_i x p2
    rcases vs with _ | ⟨v, vs⟩ <;> first | exact absurd h Bool.false_ne_true | skip
    cases v <;> first | exact absurd h Bool.false_ne_true | skip
    rename_i fn2 vs2 kws2 p3
    cases fn2 <;> first | exact absurd h Bool.false_ne_true | skip
    rename_i y p4
    rcases vs2 with _ | ⟨v, _ | ⟨_, _⟩⟩ <;> cases kws2 <;> cases vs <;> cases kws <;> first | exact absurd h Bool.false_ne_true | skip
    have h : ((x == ("tuple" : Str)) && (y == ("range" : Str)) && isGl X.env.scope x && isGl X.env.scope y && noStar v && mE X.N a X.env.scope fb v) = true := h
    simp only [Bool.and_eq_true] at h
    obtain ⟨⟨⟨⟨⟨h1, h2⟩, h3⟩, h4⟩, h5⟩, h6⟩ := h
    cases eqOf h1; cases eqOf h2
    exact sE_tr1 ok h3 h4 h5 (simE a ok hfb v h6)
  | .tr2 a b, X, fb, ok, hfb, pe, h => by
    cases pe <;> first | exact absurd h Bool.false_ne_true | skip
    rename_i fn vs kws p
    cases fn <;> first | exact absurd h Bool.false_ne_true | skip
    rename_i x p2
    rcases vs with _ | ⟨v, vs⟩ <;> first | exact absurd h Bool.false_ne_true | skip
    cases v <;> first | exact absurd h Bool.false_ne_true | skip
    rename_i fn2 vs2 kws2 p3
    cases fn2 <;> first | exact absurd h Bool.false_ne_true | skip
    rename_i y p4
    rcases vs2 with _ | ⟨v, _ | ⟨w, _ | ⟨_, _⟩⟩⟩ <;> cases kws2 <;> cases vs <;> cases kws <;> first | exact absurd h Bool.false_ne_true | skip
    have h : ((x == ("tuple" : Str)) && (y == ("range" : Str)) && isGl X.env.scope x && isGl X.env.scope y && noStar v && noStar w && mE X.N a X.env.scope fb v && mE X.N b X.env.scope fb w) = true := h
    simp only [Bool.and_eq_true] at h
    obtain ⟨⟨⟨⟨⟨⟨⟨h1, h2⟩, h3⟩, h4⟩, h5⟩, h6⟩, h7⟩, h8⟩ := h
    cases eqOf h1; cases eqOf h2
    exact sE_tr2 ok h3 h4 h5 h6 (simE a ok hfb v h7) (simE b ok hfb w h8)
  | .dls es, X, fb, ok, hfb, pe, h => by
    cases pe <;> first | exact absurd h Bool.false_ne_true | skip
    rename_i ks vs p
    have h : (match flatKV ks vs with
      | some l => !l.isEmpty && decide (ks.length ≤ 15) && mEs X.N es X.env.scope fb l
      | none => false) = true := h
    split at h
    · rename_i l e
      simp only [Bool.and_eq_true, decide_eq_true_eq] at h
      obtain ⟨⟨h1, h2⟩, h3⟩ := h
      obtain ⟨trs, p1, p2, p3, p4⟩ := simPs es ok hfb ks vs p l e h3
      exact sE_dls p1 p2 p3 (fun z => by subst z; cases vs <;> cases e; exact absurd h1 Bool.false_ne_true) h2 p4
    · cases h
  | .lr1 a, X, fb, ok, hfb, pe, h => by
    cases pe <;> first | exact absurd h Bool.false_ne_true | skip
    rename_i fn vs kws p
    cases fn <;> first | exact absurd h Bool.false_ne_true | skip
    rename_i x p2
    rcases vs with _ | ⟨v, vs⟩ <;> first | exact absurd h Bool.false_ne_true | skip
    cases v <;> first | exact absurd h Bool.false_ne_true | skip
    rename_i fn2 vs2 kws2 p3
    cases fn2 <;> first | exact absurd h Bool.false_ne_true | skip
    rename_i y p4
    rcases vs2 with _ | ⟨v, _ | ⟨_, _⟩⟩ <;> cases kws2 <;> cases vs <;> cases kws <;> first | exact absurd h Bool.false_ne_true | skip
    have h : ((x == ("list" : Str)) && (y == ("range" : Str)) && isGl X.env.scope x && isGl X.env.scope y && noStar v && mE X.N a X.env.scope fb v) = true := h
    simp only [Bool.and_eq_true] at h
    obtain ⟨⟨⟨⟨⟨h1, h2⟩, h3⟩, h4⟩, h5⟩, h6⟩ := h
    cases eqOf h1; cases eqOf h2
    exact sE_lr1 ok h3 h4 h5 (simE a ok hfb v h6)
  | .lrv a, X, fb, ok, hfb, pe, h => by
    cases pe <;> first | exact absurd h Bool.false_ne_true | skip
    rename_i fn vs kws p
    cases fn <;> first | exact absurd h Bool.false_ne_true | skip
    rename_i x p2
    rcases vs with _ | ⟨v, vs⟩ <;> first | exact absurd h Bool.false_ne_true | skip
    cases v <;> first | exact absurd h Bool.false_ne_true | skip
    rename_i fn2 vs2 kws2 p3
    cases fn2 <;> first | exact absurd h Bool.false_ne_true | skip
    rename_i y p4
    rcases vs2 with _ | ⟨v, _ | ⟨_, _⟩⟩ <;> cases kws2 <;> cases vs <;> cases kws <;> first | exact absurd h Bool.false_ne_true | skip
    have h : ((x == ("list" : Str)) && (y == ("reversed" : Str)) && isGl X.env.scope x && isGl X.env.scope y && noStar v && mE X.N a X.env.scope fb v) = true := h
    simp only [Bool.and_eq_true] at h
    obtain ⟨⟨⟨⟨⟨h1, h2⟩, h3⟩, h4⟩, h5⟩, h6⟩ := h
    cases eqOf h1; cases eqOf h2
    exact sE_lrv ok h3 h4 h5 (simE a ok hfb v h6)
  | .lr2 a b, X, fb, ok, hfb, pe, h => by
    cases pe <;> first | exact absurd h Bool.false_ne_true | skip
    rename_i fn vs kws p
    cases fn <;> first | exact absurd h Bool.false_ne_true | skip
    rename_i x p2
    rcases vs with _ | ⟨v, vs⟩ <;> first | exact absurd h Bool.false_ne_true | skip
    cases v <;> first | exact absurd h Bool.false_ne_true | skip
    rename_i fn2 vs2 kws2 p3
    cases fn2 <;> first | exact absurd h Bool.false_ne_true | skip
    rename_i y p4
    rcases vs2 with _ | ⟨v, _ | ⟨w, _ | ⟨_, _⟩⟩⟩ <;> cases kws2 <;> cases vs <;> cases kws <;> first | exact absurd h Bool.false_ne_true | skip
    have h : ((x == ("list" : Str)) && (y == ("range" : Str)) && isGl X.env.scope x && isGl X.env.scope y && noStar v && noStar w && mE X.N a X.env.scope fb v && mE X.N b X.env.scope fb w) = true := h
    simp only [Bool.and_eq_true] at h
    obtain ⟨⟨⟨⟨⟨⟨⟨h1, h2⟩, h3⟩, h4⟩, h5⟩, h6⟩, h7⟩, h8⟩ := h
    cases eqOf h1; cases eqOf h2
    exact sE_lr2 ok h3 h4 h5 h6 (simE a ok hfb v h7) (simE b ok hfb w h8)
  | .lzp a b, X, fb, ok, hfb, pe, h => by
    cases pe <;> first | exact absurd h Bool.false_ne_true | skip
    rename_i fn vs kws p
    cases fn <;> first | exact absurd h Bool.false_ne_true | skip
    rename_i x p2
    rcases vs with _ | ⟨v, vs⟩ <;> first | exact absurd h Bool.false_ne_true | skip
    cases v <;> first | exact absurd h Bool.false_ne_true | skip
    rename_i fn2 vs2 kws2 p3
    cases fn2 <;> first | exact absurd h Bool.false_ne_true | skip
    rename_i y p4
    rcases vs2 with _ | ⟨v, _ | ⟨w, _ | ⟨_, _⟩⟩⟩ <;> cases kws2 <;> cases vs <;> cases kws <;> first | exact absurd h Bool.false_ne_true | skip
    have h : ((x == ("list" : Str)) && (y == ("zip" : Str)) && isGl X.env.scope x && isGl X.env.scope y && noStar v && noStar w && mE X.N a X.env.scope fb v && mE X.N b X.env.scope fb w) = true := h
    simp only [Bool.and_eq_true] at h
    obtain ⟨⟨⟨⟨⟨⟨⟨h1, h2⟩, h3⟩, h4⟩, h5⟩, h6⟩, h7⟩, h8⟩ := h
    cases eqOf h1; cases eqOf h2
    exact sE_lzp ok h3 h4 h5 h6 (simE a ok hfb v h7) (simE b ok hfb w h8)
  | .mxd a b, X, fb, ok, hfb, pe, h => by
    cases pe <;> first | exact absurd h Bool.false_ne_true | skip
    rename_i fn vs kws p
    cases fn <;> first | exact absurd h Bool.false_ne_true | skip
    rename_i x p2
    rcases vs with _ | ⟨v, vs⟩ <;> first | exact absurd h Bool.false_ne_true | skip
    rcases kws with _ | ⟨⟨y, w, kp⟩, kws⟩ <;> first | (cases vs <;> exact absurd h Bool.false_ne_true) | skip
    cases y <;> cases vs <;> cases kws <;> first | exact absurd h Bool.false_ne_true | skip
    rename_i y
    have h : ((x == ("max" : Str)) && (y == ("default" : Str)) && isGl X.env.scope x && noStar v && mE X.N a X.env.scope fb v && mE X.N b X.env.scope fb w) = true := h
    simp only [Bool.and_eq_true] at h
    obtain ⟨⟨⟨⟨⟨h1, h2⟩, h3⟩, h4⟩, h5⟩, h6⟩ := h
    cases eqOf h1; cases eqOf h2
    exact sE_mxd ok h3 h4 (simE a ok hfb v h5) (simE b ok hfb w h6)
  | .ceq c f a b, X, fb, ok, hfb, pe, h => by
    cases pe <;> first | exact absurd h Bool.false_ne_true | skip
    rename_i l ops rs p
    rcases ops with _ | ⟨op, _ | ⟨_, _⟩⟩ <;> rcases rs with _ | ⟨r, _ | ⟨_, _⟩⟩ <;> first | exact absurd h Bool.false_ne_true | (cases op <;> exact absurd h Bool.false_ne_true) | skip
    cases op <;> first | exact absurd h Bool.false_ne_true | skip
    have h : (noSet r && mE X.N a X.env.scope fb l && mE X.N b X.env.scope fb r) = true := h
    simp only [Bool.and_eq_true] at h
    exact sE_ceq ok h.1.1 (simE a ok hfb l h.1.2) (simE b ok hfb r h.2)
  | .clen c f a, X, fb, ok, hfb, pe, h => by
    cases pe <;> first | exact absurd h Bool.false_ne_true | skip
    rename_i fn vs kws p
    cases fn <;> first | exact absurd h Bool.false_ne_true | skip
    rename_i x p2
    rcases vs with _ | ⟨v, _ | ⟨_, _⟩⟩ <;> first | exact absurd h Bool.false_ne_true | (cases kws <;> exact absurd h Bool.false_ne_true) | skip
    cases kws <;> first | exact absurd h Bool.false_ne_true | skip
    have h : ((x == ("len" : Str)) && isGl X.env.scope x && noStar v && mE X.N a X.env.scope fb v) = true := h
    simp only [Bool.and_eq_true] at h
    obtain ⟨⟨⟨h1, h2⟩, h3⟩, h4⟩ := h
    cases eqOf h1
    exact sE_clen ok h2 h3 (simE a ok hfb v h4)
  | .cstr c f a, X, fb, ok, hfb, pe, h => by
    cases pe <;> first | exact absurd h Bool.false_ne_true | skip
    rename_i fn vs kws p
    cases fn <;> first | exact absurd h Bool.false_ne_true | skip
    rename_i x p2
    rcases vs with _ | ⟨v, _ | ⟨_, _⟩⟩ <;> first | exact absurd h Bool.false_ne_true | (cases kws <;> exact absurd h Bool.false_ne_true) | skip
    cases kws <;> first | exact absurd h Bool.false_ne_true | skip
    have h : ((x == ("str" : Str)) && isGl X.env.scope x && noStar v && mE X.N a X.env.scope fb v) = true := h
    simp only [Bool.and_eq_true] at h
    obtain ⟨⟨⟨h1, h2⟩, h3⟩, h4⟩ := h
    cases eqOf h1
    exact sE_cstr ok h2 h3 (simE a ok hfb v h4)
  | .fmt a, X, fb, ok, hfb, pe, h => by
    cases pe <;> first | exact absurd h Bool.false_ne_true | skip
    rename_i v cv sp p
    cases sp <;> first | exact absurd h Bool.false_ne_true | skip
    have h : ((cv == -1) && mE X.N a X.env.scope fb v) = true := h
    simp only [Bool.and_eq_true] at h
    cases eq_of_beq h.1
    exact sE_fmt (simE a ok hfb v h.2)
  | .fst es, X, fb, ok, hfb, pe, h => by
    cases pe <;> first | exact absurd h Bool.false_ne_true | skip
    rename_i vs p
    rcases vs with _ | ⟨v1, _ | ⟨v2, vs⟩⟩ <;> first | exact absurd h Bool.false_ne_true | skip
    exact sE_fst (simJ es ok hfb _ h)
  | .cak f es z e, X, fb, ok, hfb, pe, h => by
    cases pe <;> first | exact absurd h Bool.false_ne_true | skip
    rename_i fn vs kws p
    cases fn <;> first | exact absurd h Bool.false_ne_true | skip
    rename_i x p2
    rcases kws with _ | ⟨⟨y, w, kp⟩, _ | ⟨_, _⟩⟩ <;> first | exact absurd h Bool.false_ne_true | (cases y <;> exact absurd h Bool.false_ne_true) | skip
    cases y <;> first | exact absurd h Bool.false_ne_true | skip
    rename_i y
    have h : ((x == Str.ofString f) && isGl X.env.scope x && okName x && (y == Str.ofString z) && !vs.isEmpty && mEs X.N es X.env.scope fb vs && mE X.N e X.env.scope fb w) = true := h
    simp only [Bool.and_eq_true] at h
    obtain ⟨⟨⟨⟨⟨⟨h1, h2⟩, h3⟩, h4⟩, h5⟩, h6⟩, h7⟩ := h
    cases eqOf h1; cases eqOf h4
    cases vs with
    | nil => exact absurd h5 (by decide)
    | cons v vs => exact sE_cak ok h2 h3 (mEs_star h6) (simEs es ok hfb _ h6) (simE e ok hfb w h7)
  | .mek c m f o z e, X, fb, ok, hfb, pe, h => by
    cases pe <;> first | exact absurd h Bool.false_ne_true | skip
    rename_i fn vs kws p
    cases fn <;> cases vs <;> first | exact absurd h Bool.false_ne_true | skip
    rename_i v x ap
    rcases kws with _ | ⟨⟨y, w, kp⟩, _ | ⟨_, _⟩⟩ <;> first | exact absurd h Bool.false_ne_true | (cases y <;> exact absurd h Bool.false_ne_true) | skip
    cases y <;> first | exact absurd h Bool.false_ne_true | skip
    rename_i y
    have h : ((x == Str.ofString m) && noCall0 v && (ap.endLine == p.line) && (y == Str.ofString z) && mE X.N o X.env.scope fb v && mE X.N e X.env.scope fb w) = true := h
    simp only [Bool.and_eq_true] at h
    obtain ⟨⟨⟨⟨⟨h1, h2⟩, h3⟩, h4⟩, h5⟩, h6⟩ := h
    cases eqOf h1; cases eqOf h4
    exact sE_mek ok h2 h3 (simE o ok hfb v h5) (simE e ok hfb w h6)
  | .lit a, X, fb, ok, hfb, pe, h => by
    cases pe <;> first | exact absurd h Bool.false_ne_true | skip
    rename_i fn vs kws p
    cases fn <;> first | exact absurd h Bool.false_ne_true | skip
    rename_i x p2
    rcases vs with _ | ⟨v, vs⟩ <;> first | exact absurd h Bool.false_ne_true | skip
    cases v <;> first | exact absurd h Bool.false_ne_true | skip
    rename_i fn2 vs2 kws2 p3
    cases fn2 <;> first | exact absurd h Bool.false_ne_true | skip
    rename_i v y ap
    cases vs2 <;> cases kws2 <;> cases vs <;> cases kws <;> first | exact absurd h Bool.false_ne_true | skip
    have h : ((x == ("list" : Str)) && (y == ("items" : Str)) && isGl X.env.scope x && noCall0 v && (ap.endLine == p3.line) && mE X.N a X.env.scope fb v) = true := h
    simp only [Bool.and_eq_true] at h
    obtain ⟨⟨⟨⟨⟨h1, h2⟩, h3⟩, h4⟩, h5⟩, h6⟩ := h
    cases eqOf h1; cases eqOf h2
    exact sE_lit ok h3 h4 h5 (simE a ok hfb v h6)
theorem simEs : ∀ (es : Es) {X : L2.Cx} {fb : Str → Bool} (ok : Ok P cls k X) (hfb : FbOk X fb) (vs : List Expr), mEs X.N es X.env.scope fb vs = true → PA X vs (LA X cls vs.length (wpEs (ctx P k) xN es))
  | .nil, X, fb, ok, hfb, vs, h => by
    cases vs <;> first | exact absurd h Bool.false_ne_true | skip
    exact sA_nil
  | .cons e r, X, fb, ok, hfb, vs, h => by
    cases vs <;> first | exact absurd h Bool.false_ne_true | skip
    rename_i v vs
    have h : (noStar v && mE X.N e X.env.scope fb v && mEs X.N r X.env.scope fb vs) = true := h
    simp only [Bool.and_eq_true] at h
    exact sA_cons h.1.1 (simE e ok hfb v h.1.2) (simEs r ok hfb vs h.2)
theorem simJ : ∀ (es : Es) {X : L2.Cx} {fb : Str → Bool} (ok : Ok P cls k X) (hfb : FbOk X fb) (vs : List Expr), mEs X.N es X.env.scope fb vs = true → JR X cls vs (fun acc σ S Q => wpJ (ctx P k) xN es acc σ S Q)
  | .nil, X, fb, ok, hfb, vs, h => by
    cases vs <;> first | exact absurd h Bool.false_ne_true | skip
    exact jr_nil
  | .cons e r, X, fb, ok, hfb, vs, h => by
    cases vs <;> first | exact absurd h Bool.false_ne_true | skip
    rename_i v vs
    have h : (noStar v && mE X.N e X.env.scope fb v && mEs X.N r X.env.scope fb vs) = true := h
    simp only [Bool.and_eq_true] at h
    exact jr_cons (simE e ok hfb v h.1.2) (simJ r ok hfb vs h.2)
theorem simPs : ∀ (es : Es) {X : L2.Cx} {fb : Str → Bool} (ok : Ok P cls k X) (hfb : FbOk X fb) (ks : List (Option Expr)) (vs : List Expr) (pos : Pos) (l : List Expr), flatKV ks vs = some l → mEs X.N es X.env.scope fb l = true →
    ∃ trs, PPs X pos ks vs trs ∧ ks.all (·.isSome) = true ∧ ks.length = vs.length ∧ ∀ {σ : Env} {S : Sto} {τ : L2.St} {H : Hp} {K : List D → Sto → Prop} {R : List (V × V) → Hp → Prop}, RepE ⟨X.K, cls⟩ X.N.length H σ τ → RepS ⟨X.K, cls⟩ S H → wpEs (ctx P k) xN es σ S K → (∀ ds S' ps H' kvs, K ds S' → TExt H H' → RepS ⟨X.K, cls⟩ S' H' → pairUp ds = some kvs → RepPr ⟨X.K, cls⟩ H' kvs ps → R ps H') → tPairs trs τ H R
  | .nil, X, fb, ok, hfb, ks, vs, pos, l, e, h => by
    cases l with
    | cons _ _ => exact absurd h Bool.false_ne_true
    | nil =>
      rcases ks with _ | ⟨_ | kk, ks⟩ <;> rcases vs with _ | ⟨vv, vs⟩ <;> first | cases e | skip
      · exact ⟨[], pps_nil, rfl, rfl, fun rE rS hw c => c _ _ _ _ _ hw (TExt.refl _) rS rfl .nil⟩
      · simp only [flatKV, Option.map_eq_some_iff] at e
        obtain ⟨_, _, e⟩ := e
        cases e
  | .cons a .nil, X, fb, ok, hfb, ks, vs, pos, l, e, h => by
    rcases ks with _ | ⟨_ | kk, ks⟩ <;> rcases vs with _ | ⟨vv, vs⟩ <;> first | cases e | skip
    · exact absurd h Bool.false_ne_true
    · simp only [flatKV, Option.map_eq_some_iff] at e
      obtain ⟨l', _, rfl⟩ := e
      simp [mEs] at h
  | .cons a (.cons b r), X, fb, ok, hfb, ks, vs, pos, l, e, h => by
    rcases ks with _ | ⟨_ | kk, ks⟩ <;> rcases vs with _ | ⟨vv, vs⟩ <;> first | cases e | skip
    · exact absurd h Bool.false_ne_true
    · simp only [flatKV, Option.map_eq_some_iff] at e
      obtain ⟨l', e', rfl⟩ := e
      have h : (noStar kk && mE X.N a X.env.scope fb kk && (noStar vv && mE X.N b X.env.scope fb vv && mEs X.N r X.env.scope fb l')) = true := h
      simp only [Bool.and_eq_true] at h
      obtain ⟨⟨_, h1⟩, ⟨⟨_, h2⟩, h3⟩⟩ := h
      obtain ⟨trs, p1, p2, p3, p4⟩ := simPs r ok hfb ks vs pos l' e' h3
      refine ⟨_, pps_cons (simE a ok hfb kk h1) (simE b ok hfb vv h2) p1, by simp [p2], by simp [p3], fun {σ S τ H K R} rE rS hw c => ?_⟩
      refine ⟨σ, S, _, rE, rS, hw, fun d S1 x H1 q1 t1 rS1 rV1 => ⟨σ, S1, _, rE.mono t1, rS1, q1, fun d2 S2 y H2 q2 t2 rS2 rV2 => ?_⟩⟩
      refine p4 ((rE.mono t1).mono t2) rS2 q2 fun ds S3 ps H3 kvs q3 t3 rS3 e3 rp => ?_
      exact c _ S3 _ H3 ((d, d2) :: kvs) q3 ((t1.trans t2).trans t3) rS3 (by simp [pairUp, e3]) (.cons ⟨(rV1.mono t2).mono t3, rV2.mono t3⟩ rp)
theorem simB : ∀ (es : Es) {X : L2.Cx} {fb : Str → Bool} (ok : Ok P cls k X) (hfb : FbOk X fb) (vs : List Expr), mEs X.N es X.env.scope fb vs = true → ∀ (op : BoolOp) (kk : Bool) (p : Pos), opK op kk = true → PE X (.BoolOp op vs p) (LE X cls (wpB (ctx P k) xN kk es))
  | .nil, X, fb, ok, hfb, vs, h => fun _ _ _ _ => PE_false
  | .cons e r, X, fb, ok, hfb, vs, h => by
    intro op kk p ho
    cases vs <;> first | exact absurd h Bool.false_ne_true | skip
    rename_i v vs
    have h : (noStar v && mE X.N e X.env.scope fb v && mEs X.N r X.env.scope fb vs) = true := h
    simp only [Bool.and_eq_true] at h
    cases r with
    | nil =>
      cases vs <;> first | exact absurd h.2 Bool.false_ne_true | skip
      exact sB_one (kk := kk) (simE e ok hfb v h.1.2)
    | cons e' r' =>
      cases vs <;> first | exact absurd h.2 Bool.false_ne_true | skip
      exact sB_cons ho (simE e ok hfb v h.1.2) (simB (.cons e' r') ok hfb _ h.2 op kk p ho)
theorem simO : ∀ (o : Oe) {X : L2.Cx} {fb : Str → Bool} (ok : Ok P cls k X) (hfb : FbOk X fb) (v : Option Expr), mO X.N o X.env.scope fb v = true → PO X v (LO X cls (wpO (ctx P k) xN o))
  | .no, X, fb, ok, hfb, v, h => by
    cases v <;> first | exact absurd h Bool.false_ne_true | skip
    exact sO_no
  | .so e, X, fb, ok, hfb, v, h => by
    cases v <;> first | exact absurd h Bool.false_ne_true | skip
    exact sO_so (simE e ok hfb _ h)
theorem simT : ∀ (t : Tt) {X : L2.Cx} {fb : Str → Bool} (ok : Ok P cls k X) (hfb : FbOk X fb) (pe : Expr), mT X.N t X.env.scope fb pe = true → PT X pe (LT X cls (wpT (ctx P k) xN t))
  | .not a, X, fb, ok, hfb, pe, h => by
    cases pe <;> first | exact absurd h Bool.false_ne_true | skip
    rename_i op e p
    cases op <;> first | exact absurd h Bool.false_ne_true | skip
    exact sT_not (simT a ok hfb e h)
  | .bop kk ts, X, fb, ok, hfb, pe, h => by
    cases pe <;> first | exact absurd h Bool.false_ne_true | skip
    rename_i op vs p
    have h : (opK op kk && mTs X.N ts X.env.scope fb vs) = true := h
    rw [Bool.and_eq_true] at h
    exact (simTs ts ok hfb vs h.2 op kk p h.1).pt
  | .ite c a b, X, fb, ok, hfb, pe, h => absurd h (by cases pe <;> exact Bool.false_ne_true)
  | .cmp o a b, X, fb, ok, hfb, pe, h => by
    cases pe <;> first | exact absurd h Bool.false_ne_true | skip
    rename_i l ops rs p
    rcases ops with _ | ⟨op, _ | ⟨_, _⟩⟩ <;> rcases rs with _ | ⟨r, _ | ⟨_, _⟩⟩ <;> first | exact absurd h Bool.false_ne_true | skip
    have h : (cmpEq o op && noSet r && mE X.N a X.env.scope fb l && mE X.N b X.env.scope fb r) = true := h
    simp only [Bool.and_eq_true] at h
    cases cmpEq_of h.1.1.1
    exact sT_cmp ok h.1.1.2 (simE a ok hfb l h.1.2) (simE b ok hfb r h.2)
  | .chn o q a b c, X, fb, ok, hfb, pe, h => by
    cases pe <;> first | exact absurd h Bool.false_ne_true | skip
    rename_i l ops rs p
    rcases ops with _ | ⟨op, _ | ⟨op', _ | ⟨_, _⟩⟩⟩ <;> rcases rs with _ | ⟨r, _ | ⟨s, _ | ⟨_, _⟩⟩⟩ <;> first | exact absurd h Bool.false_ne_true | skip
    have h : (cmpEq o op && cmpEq q op' && noSet r && noSet s && mE X.N a X.env.scope fb l && mE X.N b X.env.scope fb r && mE X.N c X.env.scope fb s) = true := h
    simp only [Bool.and_eq_true] at h
    obtain ⟨⟨⟨⟨⟨⟨h1, h2⟩, h3⟩, h4⟩, h5⟩, h6⟩, h7⟩ := h
    cases cmpEq_of h1
    cases cmpEq_of h2
    exact sT_chn ok h4 (simE a ok hfb l h5) (simE b ok hfb r h6) (simE c ok hfb s h7)
  | .ceq c f a b, X, fb, ok, hfb, pe, h => by
    cases pe <;> first | exact absurd h Bool.false_ne_true | skip
    rename_i l ops rs p
    rcases ops with _ | ⟨op, _ | ⟨_, _⟩⟩ <;> rcases rs with _ | ⟨r, _ | ⟨_, _⟩⟩ <;> first | exact absurd h Bool.false_ne_true | (cases op <;> exact absurd h Bool.false_ne_true) | skip
    cases op <;> first | exact absurd h Bool.false_ne_true | skip
    have h : (noSet r && mE X.N a X.env.scope fb l && mE X.N b X.env.scope fb r) = true := h
    simp only [Bool.and_eq_true] at h
    exact sT_ceq ok h.1.1 (simE a ok hfb l h.1.2) (simE b ok hfb r h.2)
  | .tru e, X, fb, ok, hfb, pe, h => by
    have h : (noTest pe && mE X.N e X.env.scope fb pe) = true := h
    rw [Bool.and_eq_true] at h
    exact sT_tru h.1 (simE e ok hfb pe h.2)
theorem simCs : ∀ (ts : Tts) {X : L2.Cx} {fb : Str → Bool} (ok : Ok P cls k X) (hfb : FbOk X fb) (vs : List Expr), mCs X.N ts X.env.scope fb vs = true → PTs X vs (LT X cls (wpCs (ctx P k) xN ts))
  | .nil, X, fb, ok, hfb, vs, h => by
    cases vs <;> first | exact absurd h Bool.false_ne_true | skip
    exact PTs_le pts_nil fun τ H Q ⟨σ, S, Q0, rE, rS, q, c⟩ => c _ _ _ q (TExt.refl _) rS
  | .cons e r, X, fb, ok, hfb, vs, h => by
    cases r <;> cases vs <;> first | exact absurd h Bool.false_ne_true | skip
    rename_i v vs
    cases vs <;> first | exact absurd h Bool.false_ne_true | skip
    exact pts_one (simT e ok hfb v h)
theorem simG : ∀ (t : Tg) {X : L2.Cx} {fb : Str → Bool} (ok : Ok P cls k X) (hfb : FbOk X fb) (pe : Expr), mG X.N t X.env.scope fb pe = true → True ∧ PG X pe (LG X cls (tgL t) (wpG (ctx P k) xN t))
  | .nm i, X, fb, ok, hfb, pe, h => by
    cases pe <;> first | exact absurd h Bool.false_ne_true | skip
    rename_i x p
    have h : (X.N[i]? == some x && isLoc X.env.scope fb x) = true := h
    rw [Bool.and_eq_true] at h
    obtain ⟨h1, h2⟩ := loc_of hfb h.2
    exact ⟨trivial, sG_nm ok.nd (ix_of h.1) h1 h2⟩
  | .tp ts, X, fb, ok, hfb, pe, h => by
    cases pe <;> first | exact absurd h Bool.false_ne_true | skip
    rename_i vs kk p
    obtain ⟨h1, h2, h3⟩ := simGs ts ok hfb vs h
    exact ⟨trivial, sG_tp ok.calm h1 h2 h3⟩
  | .ix o i, X, fb, ok, hfb, pe, h => by
    cases pe <;> first | exact absurd h Bool.false_ne_true | skip
    rename_i v j p
    have h : (noSlice j && mE X.N o X.env.scope fb v && mE X.N i X.env.scope fb j) = true := h
    simp only [Bool.and_eq_true] at h
    exact ⟨trivial, sG_ix ok h.1.1 (simE o ok hfb v h.1.2) (simE i ok hfb j h.2)⟩
  | .at o f, X, fb, ok, hfb, pe, h => by
    cases pe <;> exact absurd h Bool.false_ne_true
theorem simGs : ∀ (ts : Tgs) {X : L2.Cx} {fb : Str → Bool} (ok : Ok P cls k X) (hfb : FbOk X fb) (vs : List Expr), mGs X.N ts X.env.scope fb vs = true → vs.all noStar = true ∧ vs.length = tgsLen ts ∧ PGs X vs (LGs X cls (tgsL ts) (wpGs (ctx P k) xN ts))
  | .nil, X, fb, ok, hfb, vs, h => by
    cases vs <;> first | exact absurd h Bool.false_ne_true | skip
    exact ⟨rfl, rfl, sGs_nil⟩
  | .cons t r, X, fb, ok, hfb, vs, h => by
    cases vs <;> first | exact absurd h Bool.false_ne_true | skip
    rename_i v vs
    have h : (noStar v && mG X.N t X.env.scope fb v && mGs X.N r X.env.scope fb vs) = true := h
    simp only [Bool.and_eq_true] at h
    obtain ⟨h1, h2, h3⟩ := simGs r ok hfb vs h.2
    refine ⟨by rw [List.all_cons, h.1.1, h1]; rfl, by rw [List.length_cons, h2]; rfl, ?_⟩
    rw [tgsL_cons]
    exact sGs_cons h.1.1 (simG t ok hfb v h.1.2).2 h3
theorem simI : ∀ (it : I) {X : L2.Cx} {fb : Str → Bool} (ok : Ok P cls k X) (hfb : FbOk X fb) (tg pe : Expr), mI X.N it X.env.scope fb pe = true → isTupT it tg = true → PI X tg pe (LI X cls (wpI (ctx P k) xN it))
  | .seq e, X, fb, ok, hfb, tg, pe, h, ht => sI_seq (simE e ok hfb pe h)
  | .rng es, X, fb, ok, hfb, tg, pe, h, ht => by
    cases pe <;> first | exact absurd h Bool.false_ne_true | skip
    rename_i fn vs kws p
    cases fn <;> cases kws <;> first | exact absurd h Bool.false_ne_true | skip
    rename_i x p2
    have h : ((x == ("range" : Str)) && isGl X.env.scope x && oneTwo vs && mEs X.N es X.env.scope fb vs) = true := h
    simp only [Bool.and_eq_true] at h
    obtain ⟨⟨⟨h0, h1⟩, h2⟩, h3⟩ := h
    cases eqOf h0
    have hst := mEs_star h3
    have ha := simEs es ok hfb vs h3
    rcases vs with _ | ⟨a, _ | ⟨b, _ | ⟨cc, _ | ⟨_, _⟩⟩⟩⟩ <;> first | exact absurd h2 Bool.false_ne_true | skip
    · simp only [List.all_cons, Bool.and_eq_true] at hst
      exact sI_rng1 ok h1 hst.1 ha
    · simp only [List.all_cons, Bool.and_eq_true] at hst
      exact sI_rng2 ok h1 hst.1 hst.2.1 ha
    · simp only [List.all_cons, Bool.and_eq_true] at hst
      exact sI_rng3 ok h1 hst.1 hst.2.1 hst.2.2.1 ha
  | .enu e, X, fb, ok, hfb, tg, pe, h, ht => by
    cases pe <;> first | exact absurd h Bool.false_ne_true | skip
    rename_i fn vs kws p
    cases fn <;> first | exact absurd h Bool.false_ne_true | skip
    rename_i x p2
    rcases vs with _ | ⟨a, _ | ⟨_, _⟩⟩ <;> cases kws <;> first | exact absurd h Bool.false_ne_true | skip
    have h : ((x == ("enumerate" : Str)) && isGl X.env.scope x && noStar a && mE X.N e X.env.scope fb a) = true := h
    simp only [Bool.and_eq_true] at h
    obtain ⟨⟨⟨h0, h1⟩, h2⟩, h3⟩ := h
    cases eqOf h0
    cases tg <;> first | exact absurd ht Bool.false_ne_true | skip
    exact sI_enu ok h1 h2 (simE e ok hfb a h3)
  | .zip e e2, X, fb, ok, hfb, tg, pe, h, ht => by
    cases pe <;> first | exact absurd h Bool.false_ne_true | skip
    rename_i fn vs kws p
    cases fn <;> first | exact absurd h Bool.false_ne_true | skip
    rename_i x p2
    rcases vs with _ | ⟨a, _ | ⟨b, _ | ⟨_, _⟩⟩⟩ <;> cases kws <;> first | exact absurd h Bool.false_ne_true | skip
    have h : ((x == ("zip" : Str)) && isGl X.env.scope x && noStar a && noStar b && mE X.N e X.env.scope fb a && mE X.N e2 X.env.scope fb b) = true := h
    simp only [Bool.and_eq_true] at h
    obtain ⟨⟨⟨⟨⟨h0, h1⟩, h2⟩, h3⟩, h4⟩, h5⟩ := h
    cases eqOf h0
    cases tg <;> first | exact absurd ht Bool.false_ne_true | skip
    exact sI_zip ok h1 h2 h3 (simE e ok hfb a h4) (simE e2 ok hfb b h5)
  | .rev e, X, fb, ok, hfb, tg, pe, h, ht => by
    cases pe <;> first | exact absurd h Bool.false_ne_true | skip
    rename_i fn vs kws p
    cases fn <;> first | exact absurd h Bool.false_ne_true | skip
    rename_i x p2
    rcases vs with _ | ⟨a, _ | ⟨_, _⟩⟩ <;> cases kws <;> first | exact absurd h Bool.false_ne_true | skip
    have h : ((x == ("reversed" : Str)) && isGl X.env.scope x && noStar a && mE X.N e X.env.scope fb a) = true := h
    simp only [Bool.and_eq_true] at h
    obtain ⟨⟨⟨h0, h1⟩, h2⟩, h3⟩ := h
    cases eqOf h0
    exact sI_rev ok h1 h2 (simE e ok hfb a h3)
  | .its e, X, fb, ok, hfb, tg, pe, h, ht => by
    cases pe <;> exact absurd h Bool.false_ne_true
theorem simTs : ∀ (ts : Tts) {X : L2.Cx} {fb : Str → Bool} (ok : Ok P cls k X) (hfb : FbOk X fb) (vs : List Expr), mTs X.N ts X.env.scope fb vs = true → ∀ (op : BoolOp) (kk : Bool) (p : Pos), opK op kk = true → PW X (.BoolOp op vs p) (LT X cls (wpTs (ctx P k) xN kk ts))
  | .nil, X, fb, ok, hfb, vs, h => fun _ _ _ _ => PW_false
  | .cons e r, X, fb, ok, hfb, vs, h => by
    intro op kk p ho
    cases vs <;> first | exact absurd h Bool.false_ne_true | skip
    rename_i v vs
    have h : (mT X.N e X.env.scope fb v && mTs X.N r X.env.scope fb vs) = true := h
    simp only [Bool.and_eq_true] at h
    cases r with
    | nil =>
      cases vs <;> first | exact absurd h.2 Bool.false_ne_true | skip
      exact sTs_one (simT e ok hfb v h.1)
    | cons e' r' =>
      cases vs <;> first | exact absurd h.2 Bool.false_ne_true | skip
      exact sTs_cons ho (simT e ok hfb v h.1) (simTs (.cons e' r') ok hfb _ h.2 op kk p ho)
end
end Lr

set_option Elab.async false
set_option linter.all false
set_option maxRecDepth 100000
set_option maxHeartbeats 8000000
/-! part 11: statements are simulated -/
namespace Lr
open PySem PySem.Spec PyProof.Rows L2
variable {P : Prog} {cls : String → Addr} {k : Nat}
theorem lcLine_of {sc : Scope} {x : Str} {px : Pos} {v : Expr} (h : lcLine sc x px v = true) : ∃ el gs scope pl, v = .ListComp el gs scope pl ∧ ((isL0 sc x = true ∧ (px.line == pl.line) = true) ∧ (scope.names.any fun (n, k) => n == x && (k == .local || k == .cell)) = false) := by
  cases v <;> first | exact absurd h Bool.false_ne_true | skip
  rename_i el gs scope pl
  have h : (isL0 sc x && (px.line == pl.line) && !(scope.names.any fun (n, k) => n == x && (k == .local || k == .cell))) = true := h
  simp only [Bool.and_eq_true, Bool.not_eq_true'] at h
  exact ⟨el, gs, scope, pl, rfl, h⟩
theorem lcCell_of {sc : Scope} {x : Str} {v : Expr} (h : lcCell sc x v = true) : ∃ el gs scope pl, v = .ListComp el gs scope pl ∧ sc.names.lookup x = some .cell := by
  cases v <;> first | exact absurd h Bool.false_ne_true | skip
  rename_i el gs scope pl
  have h : (sc.names.lookup x == some .cell) = true := h
  exact ⟨el, gs, scope, pl, rfl, eq_of_beq h⟩
theorem sw_false {elt : Expr} {gs : List Comprehension} {scope : Scope} {pos py : Pos} {y : Str} {l : Nat} {env : PySem.Env} (hy : env.scope.names.lookup y = some .cell) : swapsWith (.ListComp elt gs scope pos) (some (.Name y py)) l env = pure false := by
  have ky : env.kindOf y = some .cell := hy
  have e : ((some NameKind.cell : Option NameKind) == some NameKind.local) = false := by decide
  unfold swapsWith
  simp only [ky, e, Bool.and_false, Bool.false_and]
theorem sim_asg {X : L2.Cx} {fb : Str → Bool} (ok : Ok P cls k X) (hfb : FbOk X fb) (hk : X.env.scope.kind = .function) (t : Tg) (e : E) (tg v : Expr) (p : Pos) (h : mAsg X.N t e X.env.scope fb tg v p.line = true) : PS X (.Assign [tg] v p) (LS X cls (wpS (ctx P k) xN (.set t e))) := by
  cases t with
  | nm i =>
    cases tg <;> first | exact absurd h Bool.false_ne_true | skip
    rename_i x px
    have h : (X.N[i]? == some x && isLoc X.env.scope fb x && mE X.N e X.env.scope fb v && (noComp v || lcLine X.env.scope x px v || lcCell X.env.scope x v)) = true := h
    simp only [Bool.and_eq_true, Bool.or_eq_true] at h
    obtain ⟨⟨⟨h1, h2⟩, h3⟩, h4⟩ := h
    obtain ⟨l1, l2⟩ := loc_of hfb h2
    cases hn : noComp v with
    | true => exact sS_nm ok.nd (ix_of h1) l1 l2 hn (simE e ok hfb v h3)
    | false =>
      rw [hn] at h4
      rcases h4 with h4 | h5
      rotate_left
      · obtain ⟨el, gs, scope, pl, ev, g5⟩ := lcCell_of h5
        subst ev
        exact (ps_set ok.nd (ix_of h1) l1 (simE e ok hfb _ h3) (sw_false g5) l2).le (nm_red (ix_of h1) fun _ _ _ h => h)
      have h4 := h4.resolve_left Bool.false_ne_true
      obtain ⟨el, gs, scope, pl, ev, g4⟩ := lcLine_of h4
      subst ev
      obtain ⟨el2, tg2, it2, cs2, own2, rfl⟩ : ∃ a b c d f, e = .lc a b c d f := by
        cases e <;> first | exact ⟨_, _, _, _, _, rfl⟩ | exact absurd h3 Bool.false_ne_true
      rcases gs with _ | ⟨⟨t, i2, ifs, as⟩, _ | ⟨_, _⟩⟩ <;> first | exact absurd h3 Bool.false_ne_true | skip
      obtain ⟨h0, hm⟩ := lcM_of h3
      subst h0
      have hps := ps_setLc (spos := p) (pos := pl) (py := px) (elt := el) (te := LE X cls (wpE (ctx P k) xN el2)) (tt := LT X cls (wpCs (ctx P k) xN cs2)) (g := LG X cls (tgL tg2) (wpG (ctx P k) xN tg2)) (wi := LI X cls (wpI (ctx P k) xN it2)) ok.calm ok.nd (ix_of h1) (loc0_of g4.1.1) (sw_true hk (loc0_of g4.1.1) g4.1.2 g4.2) (simI it2 ok hfb t i2 hm.hit hm.tt) (blkOk_by hm.bk) (fun s H C cl fp => (simG tg2 (ok.blk s H scope (compEnvC scope cl C X.env) fp) blk_ok t hm.htg).2) (fun s H C cl fp => simCs cs2 (ok.blk s H scope (compEnvC scope cl C X.env) fp) blk_ok ifs hm.hcs) (fun s H C cl fp => simE el2 (ok.blk s H scope (compEnvC scope cl C X.env) fp) blk_ok el hm.hel) (folded_of hm.ns)
      rw [own_ix] at hps
      exact hps.le (nm_red (ma := wpE (ctx P k) xN (.lc el2 tg2 it2 cs2 own2)) (ix_of h1) fun τ H Q q => lift_lc (subL_of (tgs_some tg2) hm.sl) τ H Q q)
  | tp ts =>
    cases tg <;> first | exact absurd h Bool.false_ne_true | skip
    rename_i tvs kk pt
    cases hv : noTup v with
    | true =>
      have h : (noComp v && mE X.N e X.env.scope fb v && mG X.N (.tp ts) X.env.scope fb (.Tuple tvs kk pt)) = true := by
        cases v <;> first | exact absurd hv Bool.false_ne_true | exact h
      simp only [Bool.and_eq_true] at h
      exact sS_asg h.1.1 rfl (swSt_none hv) (simE e ok hfb v h.1.2) (simG (.tp ts) ok hfb _ h.2).2
    | false =>
      cases v <;> first | exact absurd hv (Bool.false_ne_true ∘ Eq.symm) | skip
      rename_i vs k2 p2
      have h : mTup X.N ts e X.env.scope fb tvs (.Tuple tvs kk pt) vs (.Tuple vs k2 p2) = true := h
      unfold mTup at h
      split at h
      · rename_i hs
        rw [Bool.and_eq_true] at h
        exact sS_asg rfl rfl (swSt_of hk hs) (simE e ok hfb _ h.1) (simG (.tp ts) ok hfb _ h.2).2
      · rename_i ns hs
        obtain ⟨es, rfl⟩ : ∃ es, e = .tup es := by
          cases e <;> first | exact ⟨_, rfl⟩ | exact absurd h Bool.false_ne_true
        have h : (mEs X.N es X.env.scope fb vs && mPar X.N X.env.scope ts tvs vs ns) = true := h
        rw [Bool.and_eq_true] at h
        obtain ⟨h1, h2⟩ := h
        have ha := simEs es ok hfb vs h1
        have hw := swSt_of (k1 := kk) (k2 := k2) (p1 := pt) (p2 := p2) hk hs
        unfold mPar at h2
        split at h2
        · simp only [Bool.and_eq_true, Bool.not_eq_true', beq_eq_false_iff_ne] at h2
          obtain ⟨⟨⟨⟨⟨⟨g1, g2⟩, g3⟩, g4⟩, g5⟩, g6⟩, g7⟩ := h2
          cases eqOf g1; cases eqOf g2
          exact sS_par2 ok.calm ok.nd (ix_of g3) (ix_of g4) g7 (loc0_of g5) (loc0_of g6) hw ha
        · simp only [Bool.and_eq_true, Bool.not_eq_true', beq_eq_false_iff_ne] at h2
          obtain ⟨⟨⟨⟨⟨⟨⟨⟨⟨⟨⟨g1, g2⟩, g3⟩, g4⟩, g5⟩, g6⟩, g7⟩, g8⟩, g9⟩, g10⟩, g11⟩, g12⟩ := h2
          cases eqOf g1; cases eqOf g2; cases eqOf g3
          exact sS_par3 ok.calm ok.nd (ix_of g4) (ix_of g5) (ix_of g6) g10 g11 g12 (loc0_of g7) (loc0_of g8) (loc0_of g9) hw ha
        · cases h2
      · cases h
  | ix o i =>
    cases tg <;> first | exact absurd h Bool.false_ne_true | skip
    rename_i w j pt
    have h : (noComp v && mG X.N (.ix o i) X.env.scope fb (.Subscript w j pt) && mE X.N e X.env.scope fb v) = true := h
    simp only [Bool.and_eq_true] at h
    exact sS_asg h.1.1 rfl (swSt_nt rfl rfl) (simE e ok hfb v h.2) (simG (.ix o i) ok hfb _ h.1.2).2
  | «at» o f =>
    cases tg <;> first | exact absurd h Bool.false_ne_true | skip
    rename_i w x pt
    have h : ((x == Str.ofString f) && !(f == "") && noComp v && mE X.N o X.env.scope fb w && mE X.N e X.env.scope fb v) = true := h
    simp only [Bool.and_eq_true, Bool.not_eq_true', beq_eq_false_iff_ne] at h
    obtain ⟨⟨⟨⟨h0, h1⟩, h2⟩, h3⟩, h4⟩ := h
    cases eqOf h0
    exact sS_fld ok h1 h2 (simE o ok hfb w h3) (simE e ok hfb v h4)
mutual
theorem simS : ∀ (st : St1) {X : L2.Cx} {fb : Str → Bool} (ok : Ok P cls k X) (hfb : FbOk X fb) (hk : X.env.scope.kind = .function) (hp : PassesOwn (model X.prog X.w) X.A X.env X.xe) (ps : Stmt), mS X.N st X.env.scope fb ps = true → PS X ps (LS X cls (wpS (ctx P k) xN st))
  | .rse, X, fb, ok, hfb, hk, hp, ps, h => sS_rse
  | .set t e, X, fb, ok, hfb, hk, hp, ps, h => by
    cases ps <;> first | exact absurd h Bool.false_ne_true | skip
    rename_i tgs v p
    rcases tgs with _ | ⟨tg, _ | ⟨_, _⟩⟩ <;> first | exact absurd h Bool.false_ne_true | skip
    exact sim_asg ok hfb hk t e tg v p h
  | .aug i o e, X, fb, ok, hfb, hk, hp, ps, h => by
    cases ps <;> first | exact absurd h Bool.false_ne_true | skip
    rename_i t op v p
    cases t <;> first | exact absurd h Bool.false_ne_true | skip
    rename_i x px
    have h : (X.N[i]? == some x && isLoc X.env.scope fb x && opEq o op && mE X.N e X.env.scope fb v) = true := h
    simp only [Bool.and_eq_true] at h
    obtain ⟨⟨⟨h1, h2⟩, h3⟩, h4⟩ := h
    obtain ⟨l1, l2⟩ := loc_of hfb h2
    cases opEq_of h3
    exact sS_aug ok.nd (ix_of h1) l1 l2 (simE e ok hfb v h4)
  | .fla o f op e, X, fb, ok, hfb, hk, hp, ps, h => by
    cases ps <;> first | exact absurd h Bool.false_ne_true | skip
    rename_i t oq v p
    cases t <;> first | exact absurd h Bool.false_ne_true | skip
    rename_i w x px
    have h : ((x == Str.ofString f) && !(f == "") && opEq op oq && mE X.N o X.env.scope fb w && mE X.N e X.env.scope fb v) = true := h
    simp only [Bool.and_eq_true, Bool.not_eq_true', beq_eq_false_iff_ne] at h
    obtain ⟨⟨⟨⟨h0, h1⟩, h2⟩, h3⟩, h4⟩ := h
    cases eqOf h0
    cases opEq_of h2
    exact sS_fla ok h1 (simE o ok hfb w h3) (simE e ok hfb v h4)
  | .exp e, X, fb, ok, hfb, hk, hp, ps, h => by
    cases ps <;> first | exact absurd h Bool.false_ne_true | skip
    rename_i v p
    have h : (noComp v && mE X.N e X.env.scope fb v) = true := h
    simp only [Bool.and_eq_true] at h
    exact sS_exp h.1 (simE e ok hfb v h.2)
  | .ret e, X, fb, ok, hfb, hk, hp, ps, h => by
    cases ps <;> first | exact absurd h Bool.false_ne_true | skip
    rename_i v p
    cases v <;> first | exact absurd h Bool.false_ne_true | skip
    exact sS_ret (simE e ok hfb _ h)
  | .retN, X, fb, ok, hfb, hk, hp, ps, h => by
    cases ps <;> first | exact absurd h Bool.false_ne_true | skip
    rename_i v p
    cases v <;> first | exact absurd h Bool.false_ne_true | skip
    exact sS_retN
  | .pas, X, fb, ok, hfb, hk, hp, ps, h => by
    cases ps <;> first | exact absurd h Bool.false_ne_true | skip
    exact sS_pas
  | .brk, X, fb, ok, hfb, hk, hp, ps, h => by
    cases ps <;> first | exact absurd h Bool.false_ne_true | skip
    exact sS_brk
  | .cnt, X, fb, ok, hfb, hk, hp, ps, h => by
    cases ps <;> first | exact absurd h Bool.false_ne_true | skip
    exact sS_cnt
  | .iff c a b, X, fb, ok, hfb, hk, hp, ps, h => by
    cases ps <;> first | exact absurd h Bool.false_ne_true | skip
    rename_i t u w p
    have h : (mT X.N c X.env.scope fb t && mSs X.N a X.env.scope fb u && mSs X.N b X.env.scope fb w) = true := h
    simp only [Bool.and_eq_true] at h
    exact sS_iff (simT c ok hfb t h.1.1) (simSs a ok hfb hk hp u h.1.2) (simSs b ok hfb hk hp w h.2)
  | .whl c b, X, fb, ok, hfb, hk, hp, ps, h => by
    cases ps <;> first | exact absurd h Bool.false_ne_true | skip
    rename_i t u w p
    cases w <;> first | exact absurd h Bool.false_ne_true | skip
    have h : (mT X.N c X.env.scope fb t && mSs X.N b X.env.scope fb u) = true := h
    simp only [Bool.and_eq_true] at h
    exact sS_whl hp (simT c ok hfb t h.1) (simSs b ok hfb hk hp u h.2)
  | .for_ t i b, X, fb, ok, hfb, hk, hp, ps, h => by
    cases ps <;> first | exact absurd h Bool.false_ne_true | skip
    rename_i tg it u w p
    cases w <;> first | exact absurd h Bool.false_ne_true | skip
    have h : (noSet it && mI X.N i X.env.scope fb it && isTupT i tg && mG X.N t X.env.scope fb tg && mSs X.N b X.env.scope fb u) = true := h
    simp only [Bool.and_eq_true] at h
    obtain ⟨⟨⟨⟨h0, h1⟩, h2⟩, h3⟩, h4⟩ := h
    exact sS_for hp ok.calm h0 (simI i ok hfb tg it h1 h2) (simG t ok hfb tg h3).2 (simSs b ok hfb hk hp u h4)
theorem simSs : ∀ (ss : Sts) {X : L2.Cx} {fb : Str → Bool} (ok : Ok P cls k X) (hfb : FbOk X fb) (hk : X.env.scope.kind = .function) (hp : PassesOwn (model X.prog X.w) X.A X.env X.xe) (ps : List Stmt), mSs X.N ss X.env.scope fb ps = true → PSs X ps (LS X cls (wpSs (ctx P k) xN ss))
  | .nil, X, fb, ok, hfb, hk, hp, ps, h => by
    cases ps <;> first | exact absurd h Bool.false_ne_true | skip
    exact sSs_nil
  | .cons s r, X, fb, ok, hfb, hk, hp, ps, h => by
    cases ps <;> first | exact absurd h Bool.false_ne_true | skip
    rename_i v vs
    have h : (mS X.N s X.env.scope fb v && mSs X.N r X.env.scope fb vs) = true := h
    simp only [Bool.and_eq_true] at h
    show PSs X _ (LS X cls fun D σ S => wpS (ctx P k) xN s { D with nx := fun σ1 S1 => wpSs (ctx P k) xN r D σ1 S1 } σ S)
    exact sSs_cons (simS s ok hfb hk hp v h.1) (simSs r ok hfb hk hp vs h.2)
end
end Lr

set_option Elab.async false
set_option linter.all false
set_option maxRecDepth 100000
set_option maxHeartbeats 4000000
/-! part 12: a table of defs keeps its promises; a law's head -/
namespace Lr
open PySem PySem.Spec PyProof.Rows L2
structure Ent where
  key : String
  own : Wh
  d : He.DefD
  N : List Str
  ps : List Str
  body : Sts
  dfs : List D := []
  kw : Option String := none
structure Tbl where
  defs : List Ent
  gls : List (String × D)
  fls : List (String × String)
def Ent.fd (e : Ent) : FnDef := ⟨e.own, e.ps.length, e.N.length, e.body⟩
def Tbl.prog (T : Tbl) : Prog := ⟨fun f => (T.defs.find? (·.key == f)).map Ent.fd, fun n => T.gls.lookup n, fun c f => T.fls.contains (c, f), fun f => ((T.defs.find? (·.key == f)).map (·.dfs)).getD [], fun f => (T.defs.find? (·.key == f)).bind (·.kw)⟩
/-- a default's value -/
def dvD : He.Dv → D
  | .non => .non
  | .bl b => .bl b
  | .int i => .int i
  | .str x => .str x
  | _ => .ty ""
def dvOk : He.Dv → Bool
  | .non => true
  | .bl _ => true
  | .int _ => true
  | .str _ => true
  | _ => false
def cA (K : PySem.W.Frag) (c : String) : Addr := He.ga K (Str.ofString c)
/-! ### what the text shows -/
def whB (e : Ent) : Bool := match e.own with
  | .pl => e.d.at_ == (Str.ofString e.key, none)
  | .mt c m => e.d.at_ == (Str.ofString c, some (Str.ofString m))
  | .it c => e.d.at_ == (Str.ofString c, some (Str.ofString "__init__"))
def entS (e : Ent) : Bool := whB e && C8.scC e.N e.ps e.d.scope && (e.d.dfl.all dvOk && decide (e.d.dfl.map dvD = e.dfs) && e.d.kwd.isEmpty) && mSs e.N e.body e.d.scope (fun _ => true) e.d.body
def Ent.Bd0 (e : Ent) : Prop := ∀ (kV doc pm : Value) (an : Option Addr) (cdv ct : Value) (us : List Value), us.length = e.ps.length → bindArgs (PySem.W.fnOf e.d.name e.d.qual e.d.params e.d.body e.d.scope .none kV doc pm an cdv ct) ⟨us, []⟩ = pure (e.ps.zip us)
/-- with defaults: all but the last m are written, or all -/
def Ent.BdN (e : Ent) (m n : Nat) : Prop := ∀ (T : Addr) (kV doc pm : Value) (an : Option Addr) (cdv ct : Value) (us its : List Value), us.length = n → its.length = m →
  ∃ k, bindArgs (PySem.W.fnOf e.d.name e.d.qual e.d.params e.d.body e.d.scope (.ref T) kV doc pm an cdv ct) ⟨us, []⟩ = seqItems? (.ref T) >>= k ∧ k (some its.toArray) = pure (e.ps.zip (us ++ its.drop (m - (e.ps.length - n))))
def Ent.Bd (e : Ent) : Prop := match e.d.dfl with
  | [] => e.Bd0
  | _ :: r => e.BdN (r.length + 1) e.ps.length ∧ e.BdN (r.length + 1) (e.ps.length - (r.length + 1)) ∧ r.length + 1 ≤ e.ps.length
/-- its last parameter handed in by its name -/
def Ent.BdK (e : Ent) : Prop := match e.kw with
  | none => True
  | some z => e.own ≠ .it (match e.own with | .it c => c | _ => "") ∧ 1 ≤ e.ps.length ∧ match e.d.dfl with
    | [] => ∀ (kV doc pm : Value) (an : Option Addr) (cdv ct : Value) (us ws : List Value), us.length = e.ps.length - 1 → ws.length = 1 → bindArgs (PySem.W.fnOf e.d.name e.d.qual e.d.params e.d.body e.d.scope .none kV doc pm an cdv ct) ⟨us, [Str.ofString z].zip ws⟩ = pure (e.ps.zip (us ++ ws))
    | _ :: r => ∀ (T : Addr) (kV doc pm : Value) (an : Option Addr) (cdv ct : Value) (us its ws : List Value), us.length = e.ps.length - 1 → its.length = r.length + 1 → ws.length = 1 →
      ∃ k, bindArgs (PySem.W.fnOf e.d.name e.d.qual e.d.params e.d.body e.d.scope (.ref T) kV doc pm an cdv ct) ⟨us, [Str.ofString z].zip ws⟩ = seqItems? (.ref T) >>= k ∧ k (some its.toArray) = pure (e.ps.zip (us ++ ws))
def AllBk : List Ent → Prop
  | [] => True
  | e :: r => e.BdK ∧ AllBk r
theorem AllBk.of : ∀ {l : List Ent}, AllBk l → ∀ e ∈ l, e.BdK
  | e :: r, h, x, hx => by
    rcases List.mem_cons.mp hx with z | z
    · rw [z]; exact h.1
    · exact AllBk.of h.2 x z
def AllBd : List Ent → Prop
  | [] => True
  | e :: r => e.Bd ∧ AllBd r
theorem AllBd.of : ∀ {l : List Ent}, AllBd l → ∀ e ∈ l, e.Bd
  | e :: r, h, x, hx => by
    rcases List.mem_cons.mp hx with z | z
    · rw [z]; exact h.1
    · exact AllBd.of h.2 x z
/-! ### what the heap shows -/
def entK (fl : String → String → Bool) (K : PySem.W.Frag) (e : Ent) : Bool := match e.own with
  | .pl => (He.Fa.glo (Str.ofString e.key)).ok K
  | .mt c m => (He.Fa.meth (Str.ofString c) (Str.ofString m)).ok K && (He.Fa.cls (Str.ofString c)).ok K && !fl c m
  | .it c => (He.Fa.mkr (Str.ofString c)).ok K && (He.Fa.glo (Str.ofString c)).ok K
mutual
def glV (K : PySem.W.Frag) : D → Value → Bool
  | .non, .none => true
  | .bl b, .bool c => b == c
  | .int i, .int j _ => decide (i = j)
  | .str x, .str y _ => decide (x = y)
  | .cl c, .ref a => decide (a = cA K c)
  | .kt ds, .ref p => (match K.lookup p with
    | some ⟨.type t, _, .seq its _, _⟩ => decide (t = "tuple") && decide (its.size ≤ sizeLine) && glVs K ds its.toList
    | _ => false)
  | _, _ => false
def glVs (K : PySem.W.Frag) : List D → List Value → Bool
  | [], [] => true
  | d :: ds, u :: us => glV K d u && glVs K ds us
  | _, _ => false
end
def glB (K : PySem.W.Frag) (n : String) (d : D) : Bool := match d with
  | .ty m => decide (n = m) && tyM.contains m && (He.Fa.free (Str.ofString n)).ok K
  | d => (match PySem.W.nsIn K mainGlobals (Str.ofString n) with
    | some (some u) => glV K d u
    | _ => false)
def clsB (fls : List (String × String)) (K : PySem.W.Frag) (c : String) : Bool :=
  (He.Fa.cls (Str.ofString c)).ok K && decide (PySem.W.findIn K (.ref (cA K c)) "__class__" = some (some (.builtin "object.__class__"))) &&
  decide (PySem.W.specialIn K (.builtin "object.__class__") "__get__" = some (some (.builtin "getset_descriptor.__get__"))) && decide (PySem.W.takesIn K (.builtin "object.__class__") = some true) && decide (PySem.W.mroIn K (cA K c) (.type "object") = some true) &&
  (tyN.all fun n => decide (PySem.W.kitOne K (.type n) (.ref (cA K c)) = some false)) && (tyM.all fun m => decide (PySem.W.kitOne K (.ref (cA K c)) (.type m) = some false)) &&
  (fls.all fun p => !(p.2 == "") || decide (PySem.W.kitOne K (.ref (cA K c)) (.ref (cA K p.1)) = some (c == p.1)))
def flB (fls : List (String × String)) (K : PySem.W.Frag) (p : String × String) : Bool :=
  if p.2 == "" then clsB fls K p.1 else (He.Fa.noat (Str.ofString p.1) (Str.ofString p.2)).ok K && (He.Fa.cls (Str.ofString p.1)).ok K
/-- no list among what the top has written -/
def noList (K : PySem.W.Frag) : Bool := K.all fun p => !(match p.2.cls with | .type t => t == "list" | _ => false)
def Tbl.facts (T : Tbl) (K : PySem.W.Frag) : Bool :=
  noList K && (bNames.all fun n => (He.Fa.free (Str.ofString n)).ok K) && (T.defs.all fun e => entK (T.prog.fl) K e) && (T.gls.all fun p => glB K p.1 p.2) && (T.fls.all fun p => flB T.fls K p)
theorem Binds0 {K : PySem.W.Frag} {e : Ent} {f : Addr} {fd : FuncData} (b : e.Bd) (F : FunD K e.d.name e.d.qual e.d.params e.d.body e.d.scope (e.d.dvs K) (e.d.kws K) f fd) : Binds K fd e.ps [] := by
  unfold Ent.Bd at b
  cases hd : e.d.dfl with
  | nil =>
    rw [hd] at b
    have h : e.d.dvs K = [] := by unfold He.DefD.dvs; rw [hd]; rfl
    rw [h] at F
    exact FunD.bindsN F b
  | cons v r =>
    rw [hd] at b
    obtain ⟨b1, b2, b3⟩ := b
    have hl : (e.d.dvs K).length = r.length + 1 := by unfold He.DefD.dvs; rw [hd, List.length_map]; rfl
    obtain ⟨ds, h1, h2⟩ := FunD.binds1 (ps := e.ps) F e.ps.length (r.length + 1) (fun z => by rw [z] at hl; cases hl) (by omega) (fun T kV doc pm an cdv ct us its h3 h4 => by
      obtain ⟨k, g1, g2⟩ := b1 T kV doc pm an cdv ct us its h3 (h4.trans hl)
      refine ⟨k, g1, ?_⟩
      rw [Nat.sub_self, Nat.sub_zero] at g2
      exact g2)
    have : (e.d.dvs K).drop (r.length + 1) = [] := List.drop_eq_nil_of_le (by omega)
    rw [this] at h1
    cases h1
    exact h2
theorem BindsO {K : PySem.W.Frag} {e : Ent} {f : Addr} {fd : FuncData} (b : e.Bd) (hne : e.d.dfl ≠ []) (F : FunD K e.d.name e.d.qual e.d.params e.d.body e.d.scope (e.d.dvs K) (e.d.kws K) f fd) : ∃ ds, Vals (e.d.dvs K) ds ∧ Binds K fd e.ps ds := by
  unfold Ent.Bd at b
  cases hd : e.d.dfl with
  | nil => exact absurd hd hne
  | cons v r =>
    rw [hd] at b
    obtain ⟨b1, b2, b3⟩ := b
    have hl : (e.d.dvs K).length = r.length + 1 := by unfold He.DefD.dvs; rw [hd, List.length_map]; rfl
    obtain ⟨ds, h1, h2⟩ := FunD.binds1 (ps := e.ps) F (e.ps.length - (r.length + 1)) 0 (fun z => by rw [z] at hl; cases hl) (by omega) (fun T kV doc pm an cdv ct us its h3 h4 => by
      obtain ⟨k, g1, g2⟩ := b2 T kV doc pm an cdv ct us its h3 (h4.trans hl)
      refine ⟨k, g1, ?_⟩
      rw [show r.length + 1 - (e.ps.length - (e.ps.length - (r.length + 1))) = 0 from by omega] at g2
      exact g2)
    exact ⟨ds, h1, h2⟩
theorem BindsK {K : PySem.W.Frag} {e : Ent} {f : Addr} {fd : FuncData} {z : String} (b : e.BdK) (hz : e.kw = some z) (F : FunD K e.d.name e.d.qual e.d.params e.d.body e.d.scope (e.d.dvs K) (e.d.kws K) f fd) : ∃ n, e.ps.length = n + 1 ∧ KBn K fd e.ps n [Str.ofString z] (fun us ws => us ++ ws) (fun us ws => us ++ ws) := by
  unfold Ent.BdK at b
  rw [hz] at b
  obtain ⟨_, b1, b2⟩ := b
  refine ⟨e.ps.length - 1, by omega, ?_⟩
  cases hd : e.d.dfl with
  | nil =>
    rw [hd] at b2
    have h : e.d.dvs K = [] := by unfold He.DefD.dvs; rw [hd]; rfl
    rw [h] at F
    obtain ⟨oc, od, dV, kV, doc, pm, an, cdv, ct, osl, rfl, lk, hcd, hD, hK⟩ := F.ex
    rcases hD with ⟨_, rfl⟩ | ⟨e, _⟩
    · exact ⟨fun s us ws X l1 l2 => .of_eq (b2 kV doc pm an cdv ct us ws l1 l2), fun r1 r2 => r1.append r2⟩
    · exact absurd rfl e
  | cons v r =>
    rw [hd] at b2
    have hl : (e.d.dvs K).length = r.length + 1 := by unfold He.DefD.dvs; rw [hd, List.length_map]; rfl
    obtain ⟨its, h⟩ := FunD.kbindsD (ps := e.ps) F (e.ps.length - 1) [Str.ofString z] (fun us _ ws => us ++ ws) (fun h => by rw [h] at hl; cases hl) (fun r1 _ r3 => r1.append r3) fun T kV doc pm an cdv ct us its ws h1 h2 h3 => b2 T kV doc pm an cdv ct us its ws h1 (h2.trans hl) h3
    exact h
theorem dfs_rep {G : GI} {H : Hp} : ∀ {vs : List He.Dv} {ds : List D}, vs.all dvOk = true → vs.map dvD = ds → RepVs G H ds (vs.map (He.Dv.v G.K))
  | [], ds, _, e => by cases e; exact .nil
  | v :: vs, ds, h, e => by
    simp only [List.all_cons, Bool.and_eq_true] at h
    cases e
    refine .cons ?_ (dfs_rep h.2 rfl)
    cases v <;> first | exact absurd h.1 Bool.false_ne_true | skip
    · exact .non
    · exact .bl _
    · exact .int _
    · exact .str _
section
variable {K : PySem.W.Frag}
mutual
theorem glV_ok (cls : String → Addr) (hc : cls = cA K) : ∀ {d : D} {u : Value}, glV K d u = true → ∃ v, RelV v u ∧ ∀ H, RepV ⟨K, cls⟩ H d v
  | .non, u, h => by
    cases u <;> first | exact absurd h Bool.false_ne_true | exact ⟨.non, rfl, fun _ => .non⟩
  | .bl b, u, h => by
    cases u <;> first | exact absurd h Bool.false_ne_true | skip
    rename_i c
    have h : (b == c) = true := h
    cases eq_of_beq h
    exact ⟨.bl b, rfl, fun _ => .bl _⟩
  | .int i, u, h => by
    cases u <;> first | exact absurd h Bool.false_ne_true | skip
    rename_i j t
    have h : i = j := of_decide_eq_true h
    subst h
    exact ⟨.int i, ⟨t, rfl⟩, fun _ => .int _⟩
  | .str i, u, h => by
    cases u <;> first | exact absurd h Bool.false_ne_true | skip
    rename_i j t
    have h : i = j := of_decide_eq_true h
    subst h
    exact ⟨.str i, ⟨t, rfl⟩, fun _ => .str _⟩
  | .cl c, u, h => by
    cases u <;> first | exact absurd h Bool.false_ne_true | skip
    rename_i a
    have h : a = cA K c := of_decide_eq_true h
    subst h
    refine ⟨.ref (cA K c), rfl, fun _ => ?_⟩
    have : (⟨K, cls⟩ : GI).cls c = cA K c := by rw [hc]
    rw [← this]
    exact .cl c
  | .kt ds, u, h => by
    cases u <;> first | exact absurd h Bool.false_ne_true | skip
    rename_i p
    have h : (match K.lookup p with
      | some ⟨.type t, _, .seq its _, _⟩ => decide (t = "tuple") && decide (its.size ≤ sizeLine) && glVs K ds its.toList
      | _ => false) = true := h
    split at h
    · rename_i t _ its n _ e
      simp only [Bool.and_eq_true, decide_eq_true_eq] at h
      obtain ⟨⟨rfl, h1⟩, h2⟩ := h
      obtain ⟨vs, r, q⟩ := glVs_ok cls hc h2
      exact ⟨.ref p, rfl, fun H => .kt ⟨_, its, n, e, rfl, rfl, h1, r⟩ (q H)⟩
    · cases h
  | .tup _, u, h => by cases u <;> exact absurd h Bool.false_ne_true
  | .key _, u, h => by cases u <;> exact absurd h Bool.false_ne_true
  | .ref _, u, h => by cases u <;> exact absurd h Bool.false_ne_true
  | .ty _, u, h => by cases u <;> exact absurd h Bool.false_ne_true
theorem glVs_ok (cls : String → Addr) (hc : cls = cA K) : ∀ {ds : List D} {us : List Value}, glVs K ds us = true → ∃ vs, Vals vs us ∧ ∀ H, RepVs ⟨K, cls⟩ H ds vs
  | [], us, h => by
    cases us with
    | nil => exact ⟨[], .nil, fun _ => .nil⟩
    | cons _ _ => exact absurd h Bool.false_ne_true
  | d :: ds, us, h => by
    cases us with
    | nil => exact absurd h Bool.false_ne_true
    | cons u us =>
      have h : (glV K d u && glVs K ds us) = true := h
      rw [Bool.and_eq_true] at h
      obtain ⟨v, r1, q1⟩ := glV_ok cls hc h.1
      obtain ⟨vs, r2, q2⟩ := glVs_ok cls hc h.2
      exact ⟨v :: vs, .cons r1 r2, fun H => .cons (q1 H) (q2 H)⟩
end
theorem boot_ty : ∀ n ∈ tyM, bootBuiltins (Str.ofString n) = some (.type n) := by decide +kernel
theorem glB_ok {h : Heap} {mg : Str → Option Value} (X : K.In h) (G : h.Ns mainGlobals mg) {n : String} {d : D} (c : glB K n d = true) : ∃ v u, (mg (Str.ofString n) = some u ∨ (mg (Str.ofString n) = none ∧ bootBuiltins (Str.ofString n) = some u)) ∧ RelV v u ∧ ∀ H, RepV ⟨K, cA K⟩ H d v := by
  unfold glB at c
  split at c
  · simp only [Bool.and_eq_true, decide_eq_true_eq] at c
    obtain ⟨⟨rfl, c1⟩, c2⟩ := c
    exact ⟨.ty n, .type n, .inr ⟨He.free_ok X G c2, boot_ty _ (List.contains_iff_mem.mp c1)⟩, rfl, fun _ => .ty n⟩
  · split at c
    · rename_i u e
      obtain ⟨v, r, q⟩ := glV_ok (cA K) rfl c
      exact ⟨v, u, .inl (PySem.W.mg_of X G e), r, q⟩
    · cases c
theorem clsF_ok {T : Tbl} (c : (T.fls.all fun p => flB T.fls K p) = true) : ClsF ⟨K, cA K⟩ T.prog.fl := by
  have hm : ∀ {a b}, T.prog.fl a b = true → flB T.fls K (a, b) = true := fun {a b} h => List.all_eq_true.mp c _ (List.contains_iff_mem.mp h)
  have hcl : ∀ {a}, T.prog.fl a "" = true → clsB T.fls K a = true := fun {a} h => by
    have := hm h
    unfold flB at this
    rw [if_pos (by rfl)] at this
    exact this
  refine ⟨fun a h => ?_, fun a f h hf => ?_, fun a h => ?_⟩
  · have := hcl h
    unfold clsB at this
    simp only [Bool.and_eq_true, decide_eq_true_eq] at this
    obtain ⟨⟨⟨⟨⟨⟨⟨h1, h2⟩, h3⟩, h4⟩, h5⟩, h6⟩, h7⟩, h8⟩ := this
    exact ⟨He.cls_ok h1, h2, h3, h4, h5⟩
  · have := hm h
    unfold flB at this
    rw [if_neg (by simpa using hf), Bool.and_eq_true] at this
    exact ⟨He.noat_ok this.1, He.cls_ok this.2⟩
  · have := hcl h
    unfold clsB at this
    simp only [Bool.and_eq_true, decide_eq_true_eq] at this
    obtain ⟨⟨⟨⟨⟨⟨⟨h1, h2⟩, h3⟩, h4⟩, h5⟩, h6⟩, h7⟩, h8⟩ := this
    refine ⟨fun n hn => of_decide_eq_true (List.all_eq_true.mp h6 n hn), fun m hm => of_decide_eq_true (List.all_eq_true.mp h7 m hm), fun a' h' => ?_⟩
    have h9 := List.all_eq_true.mp h8 (a', "") (List.contains_iff_mem.mp h')
    simpa using h9
/-- what the head has shown -/
structure Shown (T : Tbl) (P : Program) (w : World) (K : PySem.W.Frag) (mg : Str → Option Value) (h : Heap) : Prop where
  X : K.In h
  G : h.Ns mainGlobals mg
  s : (T.defs.all entS) = true
  b : AllBd T.defs
  bk : AllBk T.defs
  f : T.facts K = true
  fd : ∀ e ∈ T.defs, ∃ fd, FunD K e.d.name e.d.qual e.d.params e.d.body e.d.scope (e.d.dvs K) (e.d.kws K) (He.fAd K e.d.at_) fd
variable {T : Tbl} {P : Program} {w : World} {mg : Str → Option Value} {h base : Heap}
theorem look_mem {β : Type} {n : String} {d : β} : ∀ {l : List (String × β)}, l.lookup n = some d → (n, d) ∈ l
  | [], e => by cases e
  | (m, x) :: r, e => by
    rw [List.lookup_cons] at e
    cases q : n == m with
    | true => rw [q] at e; cases e; rw [eq_of_beq q]; exact List.mem_cons_self ..
    | false => rw [q] at e; exact List.mem_cons_of_mem _ (look_mem e)
theorem find_mem {f : String} {fd : FnDef} (e : T.prog.fn f = some fd) : ∃ en ∈ T.defs, en.key = f ∧ en.fd = fd := by
  obtain ⟨en, h1, h2⟩ := Option.map_eq_some_iff.mp e
  exact ⟨en, List.mem_of_find?_eq_some h1, by simpa using List.find?_some h1, h2⟩
theorem Shown.parts (S : Shown T P w K mg h) : noList K = true ∧ (∀ n ∈ bNames, mg (Str.ofString n) = none) ∧ (∀ e ∈ T.defs, entK (T.prog.fl) K e = true) ∧ (∀ n d, T.prog.gl n = some d → glB K n d = true) ∧ ClsF ⟨K, cA K⟩ T.prog.fl := by
  have f := S.f
  unfold Tbl.facts at f
  simp only [Bool.and_eq_true] at f
  obtain ⟨⟨⟨⟨f1, f2⟩, f3⟩, f4⟩, f5⟩ := f
  refine ⟨f1, fun n hn => He.free_ok S.X S.G (List.all_eq_true.mp f2 n hn), fun e he => List.all_eq_true.mp f3 e he, fun n d e => ?_, clsF_ok f5⟩
  have hm : (n, d) ∈ T.gls := look_mem e
  exact List.all_eq_true.mp f4 (n, d) hm
theorem wpCall_len {P : Prog} {k : Nat} {wh : Wh} {f : String} {ds : List D} {S : Sto} {Q : QE} {x : XE} {fd : FnDef} (h : wpCall P (k + 1) wh f ds S Q x) (e : P.fn f = some fd) : ds.length = fd.ps := by
  unfold wpCall at h
  rw [e] at h
  exact h.2.1
/-- every def keeps its promise -/
theorem Shown.fnR (S : Shown T P w K mg h) : ∀ (k : Nat) (base : Heap), K.In base → base.Ns mainGlobals mg → ∀ en ∈ T.defs, T.prog.fn en.key = some en.fd → ∀ fd, FunD K en.d.name en.d.qual en.d.params en.d.body en.d.scope (en.d.dvs K) (en.d.kws K) (He.fAd K en.d.at_) fd →
    FnOk P w K mg base CX0 (2 * k) (He.fAd K en.d.at_) fd en.ps (liftSp ⟨K, cA K⟩ T.prog k en.own en.key)
  | 0, base, _, _, en, hen, _, fd, F => ⟨fun vs H Q E z => by
      obtain ⟨_, _, _, _, _, z, _⟩ := z
      exact z.elim, fun A outer s H args us vs Q E _ _ _ _ z => by
      obtain ⟨_, _, _, _, _, z, _⟩ := z
      exact z.elim⟩
  | k + 1, base, Xb, Gb, en, hen, hfn, fd, F => by
    obtain ⟨p1, p2, p3, p4, p5⟩ := S.parts
    have es := List.all_eq_true.mp S.s en hen
    unfold entS at es
    simp only [Bool.and_eq_true] at es
    obtain ⟨⟨⟨e1, e2⟩, e3⟩, e4⟩ := es
    have sc := C8.fnScope_by e2
    refine F.ok sc (fun vs H Q E z => ?_) (fun cdv A outer s H vs Q E hr z => ?_)
    · obtain ⟨ds, S0, Q0, r, _, z, _⟩ := z
      rw [← r.length]
      exact wpCall_len z hfn
    · obtain ⟨ds, S0, Q0, r, rS, z, c⟩ := z
      unfold wpCall at z
      rw [hfn] at z
      obtain ⟨z1, z2, o, z⟩ := z
      have ok : Ok T.prog (cA K) k (cxOf CX0 P w K mg base en.N en.d.qual en.d.scope (He.fAd K en.d.at_) cdv A outer s H E).nox := {
        calm := rfl
        room := hr
        nd := sc.nd
        clsF := p5
        gl := fun n d e => glB_ok S.X S.G (p4 n d e)
        bl := p2
        fns := fun f fd' e => by
          obtain ⟨e', he', hk', hf'⟩ := find_mem e
          subst hf'
          have e : T.prog.fn e'.key = some e'.fd := by rw [hk']; exact e
          obtain ⟨fd2, F2⟩ := S.fd e' he'
          have ih := Shown.fnR S k base Xb Gb e' he' e fd2 F2
          have es := List.all_eq_true.mp S.s e' he'
          unfold entS at es
          simp only [Bool.and_eq_true] at es
          obtain ⟨⟨⟨g1, g2⟩, g3⟩, g4⟩ := es
          have bd := Binds0 (AllBd.of S.b e' he') F2
          have ek := p3 e' he'
          subst hk'
          show FnR _ _ _ _ e'.key e'.own
          unfold whB at g1
          unfold entK at ek
          cases ho : e'.own with
          | pl =>
            rw [ho] at g1 ek ih
            have g1 : e'.d.at_ = (Str.ofString e'.key, none) := eq_of_beq g1
            rw [g1] at ih F2
            exact ⟨_, fd2, e'.ps, ih, He.glo_ok S.X S.G ek, F2.kp, bd⟩
          | mt c m =>
            rw [ho] at g1 ek ih
            have g1 : e'.d.at_ = (Str.ofString c, some (Str.ofString m)) := eq_of_beq g1
            rw [g1] at ih F2
            simp only [Bool.and_eq_true, Bool.not_eq_true'] at ek
            exact ⟨_, fd2, e'.ps, ih, He.meth_ok ek.1.1, He.cls_ok ek.1.2, bd, ek.2⟩
          | it c =>
            rw [ho] at g1 ek ih
            have g1 : e'.d.at_ = (Str.ofString c, some (Str.ofString "__init__")) := eq_of_beq g1
            rw [g1] at ih F2
            simp only [Bool.and_eq_true] at ek
            exact ⟨_, fd2, e'.ps, ih, He.mkr_ok ek.1, He.glo_ok S.X S.G ek.2, bd⟩
        fnd := fun f fd' e ho hdf => by
          unfold Tbl.prog at hdf
          simp only at hdf
          have e0 : (T.defs.find? (·.key == f)).map Ent.fd = some fd' := e
          obtain ⟨e', h1, h2⟩ := Option.map_eq_some_iff.mp e0
          have he' := List.mem_of_find?_eq_some h1
          have hk' : e'.key = f := by simpa using List.find?_some h1
          rw [h1] at hdf
          have hdf : e'.dfs ≠ [] := hdf
          subst h2
          have e : T.prog.fn e'.key = some e'.fd := by rw [hk']; exact e
          obtain ⟨fd2, F2⟩ := S.fd e' he'
          have ih := Shown.fnR S k base Xb Gb e' he' e fd2 F2
          have es := List.all_eq_true.mp S.s e' he'
          unfold entS at es
          simp only [Bool.and_eq_true, decide_eq_true_eq] at es
          obtain ⟨⟨⟨g1, g2⟩, ⟨⟨g3, g5⟩, g6⟩⟩, g4⟩ := es
          have hne : e'.d.dfl ≠ [] := fun z => hdf (by rw [← g5, z]; rfl)
          obtain ⟨us, hv, bd⟩ := BindsO (AllBd.of S.b e' he') hne F2
          have ek := p3 e' he'
          have hdfe : T.prog.df f = e'.dfs := by
            show ((T.defs.find? (·.key == f)).map (·.dfs)).getD [] = _
            rw [h1]; rfl
          unfold whB at g1
          unfold entK at ek
          have ho : e'.own = .pl := ho
          rw [ho] at g1 ek ih
          have g1 : e'.d.at_ = (Str.ofString e'.key, none) := eq_of_beq g1
          rw [g1] at ih F2
          subst hk'
          exact ⟨_, fd2, e'.ps, _, us, ih, He.glo_ok S.X S.G ek, F2.kp, bd, hv, fun H => by
            rw [hdfe]
            exact dfs_rep (G := ⟨K, cA K⟩) g3 g5⟩
        fnk := fun f z hkw fd' e => by
          have e0 : (T.defs.find? (·.key == f)).map Ent.fd = some fd' := e
          obtain ⟨e', h1, h2⟩ := Option.map_eq_some_iff.mp e0
          have he' := List.mem_of_find?_eq_some h1
          have hk' : e'.key = f := by simpa using List.find?_some h1
          have hkz : e'.kw = some z := by
            have hkw : (T.defs.find? (·.key == f)).bind (·.kw) = some z := hkw
            rw [h1] at hkw
            exact hkw
          subst h2
          have e : T.prog.fn e'.key = some e'.fd := by rw [hk']; exact e
          obtain ⟨fd2, F2⟩ := S.fd e' he'
          have ih := Shown.fnR S k base Xb Gb e' he' e fd2 F2
          have es := List.all_eq_true.mp S.s e' he'
          unfold entS at es
          simp only [Bool.and_eq_true] at es
          obtain ⟨⟨⟨g1, g2⟩, g3⟩, g4⟩ := es
          have hbk := AllBk.of S.bk e' he'
          obtain ⟨n, hl, kb⟩ := BindsK hbk hkz F2
          have ek := p3 e' he'
          subst hk'
          show FnK _ _ _ _ e'.key z e'.own
          unfold whB at g1
          unfold entK at ek
          cases ho : e'.own with
          | pl =>
            rw [ho] at g1 ek ih
            have g1 : e'.d.at_ = (Str.ofString e'.key, none) := eq_of_beq g1
            rw [g1] at ih F2
            exact ⟨_, fd2, e'.ps, n, ih, He.glo_ok S.X S.G ek, F2.kp, hl, kb⟩
          | mt c m =>
            rw [ho] at g1 ek ih
            have g1 : e'.d.at_ = (Str.ofString c, some (Str.ofString m)) := eq_of_beq g1
            rw [g1] at ih F2
            simp only [Bool.and_eq_true, Bool.not_eq_true'] at ek
            exact ⟨_, fd2, e'.ps, n, ih, He.meth_ok ek.1.1, He.cls_ok ek.1.2, hl, kb⟩
          | it c =>
            unfold Ent.BdK at hbk
            rw [hkz, ho] at hbk
            exact absurd rfl hbk.1 }
      refine ⟨_, (simSs en.body (fb := fun _ => true) ok (fun _ _ _ => rfl) sc.kind PassesOwn.never en.d.body e4).nox, ?_⟩
      have fin : ∀ S1, (o = true → Conc S0 S1) → (o = false → S1 = S0) → RepS ⟨K, cA K⟩ S1 H → LS (cxOf CX0 P w K mg base en.N en.d.qual en.d.scope (He.fAd K en.d.at_) cdv A outer s H E).nox (cA K) (wpSs (ctx T.prog k) xN en.body) { nx := fun _ H' => Q .non H', rt := Q } (L2.start en.N vs) H := fun S1 h1 h2 rS1 => by
        have hl : vs.length ≤ en.N.length := by
          have l := congrArg List.length sc.pre
          rw [List.length_take] at l
          rw [← r.length, z2]
          show en.ps.length ≤ _
          omega
        refine ⟨_, _, S1, RepE.start r en.N.length en.N rfl hl, rS1, z S1 h1 h2, ?_⟩
        · exact ⟨fun σ S2 τ H' ⟨S3, ab, q⟩ t rS' rE' => c _ _ _ _ q t (rS'.abs ab) .non, fun σ S2 τ H' q => q.elim, fun σ S2 τ H' q => q.elim, fun d S2 v H' ⟨S3, ab, q⟩ t rS' rV' => c _ _ _ _ q t (rS'.abs ab) rV'⟩
      cases o with
      | true =>
        obtain ⟨S1, h1, h2⟩ := rS.conc
        exact fin S1 (fun _ => h1) (fun q => by cases q) h2
      | false => exact fin S0 (fun q => by cases q) (fun _ => rfl) rS
/-- the store at the law's call: the script alone -/
def lawS (a : Nat) (ns : List Int) : Sto := fun b => if b = a then some (.rol (ns.map .int)) else none
def LawOk (P : Prog) (k : Nat) : Prop := ∀ (a : Nat) (ns : List Int), ns.length ≤ 63 → wpCall P k .pl "law" [.ref a] (lawS a ns) (fun d _ => d = .bl true) xN
theorem script_frz (hn : noList K = true) {H : Hp} {a : Addr} {xs : List V} (hO : L2.Only H) (hS : SqL K H a xs) : ∃ o, H a = some (.frz o (.lst xs)) := by
  rcases hS with (e | ⟨o, e⟩) | ⟨o, its, n, e, hc, _⟩
  · rcases hO a with z | ⟨o, ys, z⟩
    · rw [z] at e; cases e
    · rw [z] at e; cases e
  · exact ⟨o, e⟩
  · have := List.all_eq_true.mp hn (a, o) (He.lookup_mem e)
    simp only [hc] at this
    exact absurd this (by decide)
abbrev hookL (n : Nat) (T : Tbl) : PySem.W.Hook := He.hookX n [] (T.defs.map (·.d)) [] [] T.facts
def obL (n : Nat) (T : Tbl) (s : PySem.W.SharedT) : He.AlX := He.obsX n [] (T.defs.map (·.d)) [] [] T.facts (HandSHeadRun.getT s)
theorem obL_eq (n : Nat) (T : Tbl) (s : PySem.W.SharedT) : obL n T s = (hookL n T).obs s.abs := He.obsX_eq (HandSHeadRun.getT_eq s)
theorem law_walk {l : PySem.W.OpenLaw} {kk nn : Nat} {q : Program} {loose : List Str} {d : DefRec} (hn : l.most = some 63) (hdf : d.params.defaults = []) (hroom : Room (2 * kk) callerA) (hname : d.name = ("law" : Str))
    (hs : (T.defs.all entS) = true) (hb : AllBd T.defs) (hbk : AllBk T.defs) (en : Ent) (hen : en ∈ T.defs) (hkey : en.key = "law") (hown : en.own = .pl) {x : Str} (hps : en.ps = [x]) (hfn : T.prog.fn "law" = some en.fd) (hd0 : en.d.dfl = []) (hlaw : LawOk T.prog kk) :
    PySem.W.WalkO q loose (PySem.W.XL q []) (hookL nn T).says l.row.toRowW d [] (fun f vs => PySem.call f vs) := by
  refine L2.walk_ofE (n := 63) (k := 2 * kk) (x := x) (CX := L2.CX0) hn (by decide) hdf hroom ?_ (fun _ _ _ _ z => z)
  intro w mg fa h Y G hmg0
  obtain ⟨K, KX, c⟩ := Y
  rw [hname] at hmg0
  have S : Shown T l.prog w K mg h := ⟨KX, G, hs, hb, hbk, c.more, fun e he => c.t.d.defs (List.mem_map.mpr ⟨e, he, rfl⟩)⟩
  obtain ⟨p1, p2, p3, p4, p5⟩ := S.parts
  obtain ⟨fd, F⟩ := S.fd en hen
  have es := List.all_eq_true.mp hs en hen
  unfold entS at es
  simp only [Bool.and_eq_true] at es
  obtain ⟨⟨⟨e1, e2⟩, e3⟩, e4⟩ := es
  have ek := p3 en hen
  unfold whB at e1
  unfold entK at ek
  rw [hown] at e1 ek
  have e1 : en.d.at_ = (Str.ofString en.key, none) := eq_of_beq e1
  have hf : He.fAd K en.d.at_ = fa := by
    rw [e1, hkey]
    rw [hkey] at ek
    have z := (He.glo_ok KX G ek).symm.trans hmg0
    exact Value.ref.inj (Option.some.inj z)
  have hbd : ∀ (s : Shared) (u : Value), BindsTo s fd ⟨[u], []⟩ [(x, u)] := fun s u => by
    have hz : en.d.dvs K = [] := by
      unfold He.DefD.dvs
      rw [hd0]; rfl
    rw [hz] at F
    have b0 := AllBd.of hb en hen
    unfold Ent.Bd at b0
    rw [hd0] at b0
    have z := FunD.bindsA (ps := en.ps) F b0 s [u] (by rw [hps]; rfl)
    rw [hps] at z
    exact z
  refine ⟨K, fd, liftSp ⟨K, cA K⟩ T.prog kk .pl "law", KX, hbd, fun H a ns hl hO hS => ?_, fun base Xb Gb => ?_⟩
  · obtain ⟨o, e⟩ := script_frz p1 hO hS
    refine ⟨[.ref a], lawS a ns, _, .cons (.ref a) .nil, fun b u eb => ?_, hlaw a ns hl, fun d S' v H' q t rS rV => ?_⟩
    · unfold lawS at eb
      split at eb
      · rename_i z; cases eb; subst z
        exact ⟨o, _, e, RepVs.ofInts ns⟩
      · cases eb
    · cases (show d = .bl true from q)
      cases rV; rfl
  · have z := S.fnR kk base Xb Gb en hen (by rw [hkey]; exact hfn) fd F
    rw [hown, hkey, hps, hf] at z
    exact z
end
end Lr

set_option Elab.async false
set_option linter.all false
set_option maxRecDepth 100000
set_option maxHeartbeats 4000000
/-! part 13: the plain layer: calls, boxes -/
namespace Lr
open PySem L2
def fin (Q : QE) : En := { nx := fun _ S1 => ∃ S2, Abs S2 S1 ∧ Q .non S2, rt := fun d S1 => ∃ S2, Abs S2 S1 ∧ Q d S2, bk := fun _ _ => False, ct := fun _ _ => False }
theorem call_i {P : Prog} {k : Nat} {w : Wh} {f : String} {ds : List D} {S : Sto} {Q : QE} {x : XE} {fd : FnDef} (hf : P.fn f = some fd) (ho : fd.own = w) (hl : ds.length = fd.ps) (o : Bool)
    (h : ∀ S0, (o = true → Conc S S0) → (o = false → S0 = S) → wpSs (ctx P k) x fd.body (fin Q) (start fd.n ds) S0) : wpCall P (k + 1) w f ds S Q x := by
  unfold wpCall
  rw [hf]
  exact ⟨ho, hl, o, h⟩
theorem call_c {P : Prog} {k : Nat} {w : Wh} {f : String} {ds : List D} {S : Sto} {Q : QE} {x : XE} {fd : FnDef} (hf : P.fn f = some fd) (ho : fd.own = w) (hl : ds.length = fd.ps)
    (h : wpSs (ctx P k) x fd.body (fin Q) (start fd.n ds) S) : wpCall P (k + 1) w f ds S Q x :=
  call_i hf ho hl false fun S0 _ e => by rw [e rfl]; exact h
theorem call_o {P : Prog} {k : Nat} {w : Wh} {f : String} {ds : List D} {S : Sto} {Q : QE} {x : XE} {fd : FnDef} (hf : P.fn f = some fd) (ho : fd.own = w) (hl : ds.length = fd.ps)
    (h : ∀ S0, Conc S S0 → wpSs (ctx P k) x fd.body (fin Q) (start fd.n ds) S0) : wpCall P (k + 1) w f ds S Q x :=
  call_i hf ho hl true fun S0 c _ => h S0 (c rfl)
/-- the end of a call -/
theorem fin_rt {Q : QE} {d : D} {S S1 : Sto} (a : Abs S S1) (h : Q d S) : (fin Q).rt d S1 := ⟨S, a, h⟩
theorem fin_same {Q : QE} {d : D} {S : Sto} (h : Q d S) : (fin Q).rt d S := ⟨S, Abs.refl S, h⟩
/-- a box among what is opened -/
theorem Conc.box {S S0 : Sto} {b : Nat} (c : Conc S S0) (h : S b = some .bx) : ∃ i j k : Int, S0 b = some (.lst [.int i, .int j, .int k]) := by
  rcases c b with ⟨_, z⟩ | ⟨z, _⟩
  · exact z
  · exact absurd h z
/-- a box changed is a box -/
theorem Conc.back {S S0 : Sto} {b : Nat} (c : Conc S S0) (h : S b = some .bx) (i j k : Int) : Abs S (S0.put b (.lst [.int i, .int j, .int k])) := fun a o e => by
  by_cases z : a = b
  · subst z
    rw [h] at e; cases e
    exact ⟨_, Sto.put_same, .inr ⟨rfl, i, j, k, rfl⟩⟩
  · rw [Sto.put_ne z]
    exact c.abs a o e
theorem cmul_r {i j : Int} (h1 : -(2 ^ 64) < j) (h2 : j < 2 ^ 64) : mulOk i j := .inl (.inr ⟨h1, h2⟩)
theorem cmul_l {i j : Int} (h1 : -(2 ^ 64) < i) (h2 : i < 2 ^ 64) : mulOk i j := .inl (.inl ⟨h1, h2⟩)
end Lr
namespace Lr
open PySem L2
/-! rewriting rows for the plain layer -/
section
variable {S : Sto} {Q : QE} {K : D → Prop} {B : Bool → Prop} {i j : Int} {x y : Str} {a b : Nat} {ds es : List D} {d e : D} {σ : Env} {T : Sto → Prop}
theorem slot_0 : slot (some d :: σ) 0 K = K d := rfl
theorem slot_s {o : Option D} {n : Nat} : slot (o :: σ) (n + 1) K = slot σ n K := rfl
theorem set_0 {o u : Option D} : List.set (o :: σ) 0 u = u :: σ := rfl
theorem set_s {o u : Option D} {n : Nat} : List.set (o :: σ) (n + 1) u = o :: List.set σ n u := rfl
theorem tp_tup {K : List D → Prop} : tpM (.tup ds) S K = K ds := rfl
theorem tp_key {K : List D → Prop} : tpM (.key ds) S K = K ds := rfl
theorem tp_kt {K : List D → Prop} : tpM (.kt ds) S K = K ds := rfl
theorem b_add : binM .add (.int i) (.int j) S Q = Q (.int (i + j)) S := rfl
theorem b_sub : binM .sub (.int i) (.int j) S Q = Q (.int (i - j)) S := rfl
theorem b_mul : binM .mul (.int i) (.int j) S Q = (mulOk i j ∧ Q (.int (i * j)) S) := rfl
theorem b_mulL (h1 : -(2 ^ 64) < i) (h2 : i < 2 ^ 64) : binM .mul (.int i) (.int j) S Q = Q (.int (i * j)) S := propext ⟨fun h => h.2, fun h => ⟨cmul_l h1 h2, h⟩⟩
theorem b_mulR (h1 : -(2 ^ 64) < j) (h2 : j < 2 ^ 64) : binM .mul (.int i) (.int j) S Q = Q (.int (i * j)) S := propext ⟨fun h => h.2, fun h => ⟨cmul_r h1 h2, h⟩⟩
theorem b_modP (h : 0 < j) : binM .mod (.int i) (.int j) S Q = Q (.int (i % j)) S := propext ⟨fun h => h.2, fun z => ⟨h, z⟩⟩
theorem divOk_of (h : 0 < j) (h2 : j < 2 ^ 64) : divOk j := ⟨h, by
  have h3 : j.natAbs < 2 ^ 64 := by omega
  have : j.natAbs.log2 < 64 := (Nat.log2_lt (by omega)).mpr h3
  omega⟩
theorem b_fdivP (h : 0 < j) (h2 : j < 2 ^ 64) : binM .fdiv (.int i) (.int j) S Q = Q (.int (i / j)) S := propext ⟨fun h => h.2, fun z => ⟨divOk_of h h2, z⟩⟩
theorem b_mod : binM .mod (.int i) (.int j) S Q = (0 < j ∧ Q (.int (i % j)) S) := rfl
theorem b_fdiv : binM .fdiv (.int i) (.int j) S Q = (divOk j ∧ Q (.int (i / j)) S) := rfl
theorem b_pow : binM .pow (.int i) (.int j) S Q = (CPow i j ∧ Q (.int (i ^ j.toNat)) S) := rfl
theorem b_adds : binM .add (.str x) (.str y) S Q = (x.length + y.length ≤ sizeLine ∧ Q (.str (x ++ y)) S) := rfl
theorem b_addt : binM .add (.tup ds) (.tup es) S Q = (ds.length + es.length ≤ sizeLine ∧ Q (.tup (ds ++ es)) S) := rfl
theorem b_muls : binM .mul (.str x) (.int j) S Q = (0 ≤ j ∧ j ≤ 1000 ∧ x.length ≤ 1000 ∧ Q (.str (Txt.mul x j)) S) := rfl
theorem b_addl (h : S a = some (.lst ds)) (h' : S b = some (.lst es)) : binM .add (.ref a) (.ref b) S Q = (ds.length + es.length ≤ sizeLine ∧ ∀ p, S p = none → Q (.ref p) (S.put p (.lst (ds ++ es)))) := by
  show (match S a, S b with | some (.lst xs), some (.lst ys) => xs.length + ys.length ≤ sizeLine ∧ ∀ p, S p = none → Q (.ref p) (S.put p (.lst (xs ++ ys))) | _, _ => False) = _
  rw [h, h']
theorem g_add : augM .add (.int i) (.int j) S Q = Q (.int (i + j)) S := rfl
theorem g_sub : augM .sub (.int i) (.int j) S Q = Q (.int (i - j)) S := rfl
theorem c_eqi : cmpM .eq (.int i) (.int j) S B = B (decide (i = j)) := rfl
theorem c_eqs : cmpM .eq (.str x) (.str y) S B = B (decide (x = y)) := rfl
theorem c_nei : cmpM .ne (.int i) (.int j) S B = B (!decide (i = j)) := rfl
theorem c_nes : cmpM .ne (.str x) (.str y) S B = B (!decide (x = y)) := rfl
theorem c_neb {p q : Bool} : cmpM .ne (.bl p) (.bl q) S B = B (!decide (p = q)) := rfl
theorem c_eqb {p q : Bool} : cmpM .eq (.bl p) (.bl q) S B = B (decide (p = q)) := rfl
theorem c_lt : cmpM .lt (.int i) (.int j) S B = B (decide (i < j)) := rfl
theorem c_le : cmpM .le (.int i) (.int j) S B = B (decide (i ≤ j)) := rfl
theorem c_gt : cmpM .gt (.int i) (.int j) S B = B (decide (j < i)) := rfl
theorem c_ge : cmpM .ge (.int i) (.int j) S B = B (decide (j ≤ i)) := rfl
theorem c_isN : cmpM .is d .non S B = B (decide (d = .non)) := by cases d <;> rfl
theorem c_isnN : cmpM .isn d .non S B = B (!decide (d = .non)) := by cases d <;> rfl
theorem x_lst (h : S a = some (.lst ds)) (h2 : atI ds i = some d) : ixM (.ref a) (.int i) S Q = Q d S := by
  show (match S a with
    | some (.lst ds) => (match atI ds i with | some d => Q d S | none => False)
    | some (.rol ds) => (match atI ds i with | some d => Q d S | none => False)
    | some (.dct t kvs) => isKey t (.int i) = true ∧ (match lookD kvs (.int i) with | some d => Q d S | none => False)
    | _ => False) = _
  rw [h]
  show (match atI ds i with | some d => Q d S | none => False) = _
  rw [h2]
theorem x_rol (h : S a = some (.rol ds)) (h2 : atI ds i = some d) : ixM (.ref a) (.int i) S Q = Q d S := by
  show (match S a with
    | some (.lst ds) => (match atI ds i with | some d => Q d S | none => False)
    | some (.rol ds) => (match atI ds i with | some d => Q d S | none => False)
    | some (.dct t kvs) => isKey t (.int i) = true ∧ (match lookD kvs (.int i) with | some d => Q d S | none => False)
    | _ => False) = _
  rw [h]
  show (match atI ds i with | some d => Q d S | none => False) = _
  rw [h2]
theorem x_tup (h2 : atI ds i = some d) : ixM (.tup ds) (.int i) S Q = Q d S := by
  show (match atI ds i with | some d => Q d S | none => False) = _
  rw [h2]
theorem x_kt (h2 : atI ds i = some d) : ixM (.kt ds) (.int i) S Q = Q d S := by
  show (match atI ds i with | some d => Q d S | none => False) = _
  rw [h2]
theorem x_str {c : Nat} (hz : x.length ≤ sizeLine) (h2 : atI x.cps.toList i = some c) : ixM (.str x) (.int i) S Q = Q (.str ⟨#[c]⟩) S := by
  show (x.length ≤ sizeLine ∧ match atI x.cps.toList i with | some c => Q (.str ⟨#[c]⟩) S | none => False) = _
  rw [h2]
  exact propext ⟨fun h => h.2, fun h => ⟨hz, h⟩⟩
theorem p_lst {n : Nat} (h : S a = some (.lst ds)) (h2 : ixN ds.length i = some n) : putM (.ref a) (.int i) d S T = T (S.put a (.lst (ds.set n d))) := by
  show (match S a with
    | some (.lst ds) => (match ixN ds.length i with | some j => T (S.put a (.lst (ds.set j d))) | none => False)
    | some (.dct t kvs) => isKey t (.int i) = true ∧ kvs.length < sizeLine ∧ T (S.put a (.dct t (putD kvs (.int i) d)))
    | _ => False) = _
  rw [h]
  show (match ixN ds.length i with | some j => T (S.put a (.lst (ds.set j d))) | none => False) = _
  rw [h2]
end
theorem call_o' {P : Prog} {k : Nat} {w : Wh} {f : String} {ds : List D} {S : Sto} {Q : QE} {x : XE} {n m : Nat} {F : Sts} (hf : P.fn f = some ⟨w, n, m, F⟩) (σ : Env) (hl : ds.length = n) (hσ : start m ds = σ)
    (h : ∀ S0, Conc S S0 → wpSs (ctx P k) x F (fin Q) σ S0) : wpCall P (k + 1) w f ds S Q x :=
  call_o hf rfl hl fun S0 c => by rw [show start (FnDef.mk w n m F).n ds = σ from hσ]; exact h S0 c
theorem call_c' {P : Prog} {k : Nat} {w : Wh} {f : String} {ds : List D} {S : Sto} {Q : QE} {x : XE} {n m : Nat} {F : Sts} (hf : P.fn f = some ⟨w, n, m, F⟩) (σ : Env) (hl : ds.length = n) (hσ : start m ds = σ)
    (h : wpSs (ctx P k) x F (fin Q) σ S) : wpCall P (k + 1) w f ds S Q x :=
  call_c hf rfl hl (by rw [show start (FnDef.mk w n m F).n ds = σ from hσ]; exact h)
end Lr
namespace Lr
open PySem L2
theorem Abs.lst {S S3 : Sto} {p : Nat} {acc : List D} (a : Abs (S.put p (.lst acc)) S3) : S3 p = some (.lst acc) := by
  obtain ⟨o, e, q⟩ := a p _ Sto.put_same
  rcases q with rfl | ⟨z, _⟩
  · exact e
  · cases z
theorem Abs.reput {S S3 : Sto} {p : Nat} {o u : MO} (a : Abs (S.put p o) S3) : Abs (S.put p u) (S3.put p u) := fun b w e => by
  by_cases z : b = p
  · subst z; rw [Sto.put_same] at e; cases e; exact ⟨_, Sto.put_same, .inl rfl⟩
  · rw [Sto.put_ne z] at e ⊢
    exact a b w (by rw [Sto.put_ne z]; exact e)
section
variable {chk : Sto → Prop} {tg : D → Env → Sto → QS → Prop} {t : Env → Sto → (Bool → Sto → Prop) → Prop} {el : Env → Sto → QE → Prop} {p : Nat} {σ : Env} {Q : Sto → Prop} {ds : List D} {S0 : Sto}
/-- a comprehension: A the list made so far, by the turn -/
theorem lc_gen (A : Nat → List D → Prop) (h0 : A 0 []) (hl : ∀ i acc, A i acc → i < ds.length → acc.length < sizeLine) (hchk : ∀ acc, chk (S0.put p (.lst acc)))
    (hs : ∀ i d acc, ds[i]? = some d → A i acc → ∀ (K : QE) (K' : Sto → Prop), (∀ y S3, A (i + 1) (acc ++ [y]) → Abs (S0.put p (.lst acc)) S3 → K y S3) → (∀ S3, A (i + 1) acc → Abs (S0.put p (.lst acc)) S3 → K' S3) →
      tg d σ (S0.put p (.lst acc)) fun σ1 S1 => t σ1 S1 fun b S2 => (b = true → el σ1 S2 K) ∧ (b = false → K' S2))
    (hd : ∀ acc, A ds.length acc → Q (S0.put p (.lst acc))) : loopC chk tg t el p σ Q ds (S0.put p (.lst [])) := by
  have go : ∀ n i acc, n + i = ds.length → A i acc → loopC chk tg t el p σ Q (ds.drop i) (S0.put p (.lst acc)) := by
    intro n
    induction n with
    | zero =>
      intro i acc e a
      have e : i = ds.length := by omega
      subst e
      rw [List.drop_length]
      exact ⟨hchk _, hd _ a⟩
    | succ n ih =>
      intro i acc e a
      have hlt : i < ds.length := by omega
      rw [List.drop_eq_getElem_cons hlt]
      refine ⟨hchk _, hs i _ acc (List.getElem?_eq_getElem hlt) a _ _ (fun y S3 a' ab => ?_) (fun S3 a' ab => ?_)⟩
      · rw [ab.lst]
        exact ⟨hl i acc a hlt, _, ab.reput, ih (i + 1) _ (by omega) a'⟩
      · exact ⟨_, ab, ih (i + 1) _ (by omega) a'⟩
  exact go ds.length 0 [] (by omega) h0
/-- .. without a test: each item R -/
theorem lc_map (R : Nat → D → Prop) (hz : ds.length ≤ 100000) (hchk : ∀ acc, chk (S0.put p (.lst acc)))
    (hs : ∀ i d acc, ds[i]? = some d → ∀ K : QE, (∀ y S3, R i y → Abs (S0.put p (.lst acc)) S3 → K y S3) → tg d σ (S0.put p (.lst acc)) fun σ1 S1 => el σ1 S1 K)
    (hd : ∀ ys : List D, ys.length = ds.length → (∀ i y, ys[i]? = some y → R i y) → Q (S0.put p (.lst ys))) : loopC chk tg (fun _ S Q => Q true S) el p σ Q ds (S0.put p (.lst [])) := by
  refine lc_gen (fun i acc => acc.length = i ∧ ∀ j y, acc[j]? = some y → R j y) ⟨rfl, fun j y e => by simp at e⟩ (fun i acc a h => by rw [a.1, sizeLine_eq]; omega) hchk (fun i d acc e a K K' k1 k2 => ?_) (fun acc a => hd acc a.1 a.2)
  have step := hs i d acc e K fun y S3 r ab => k1 y S3 ⟨by rw [List.length_append, a.1]; rfl, fun j z ez => by
    by_cases h : j < acc.length
    · rw [List.getElem?_append_left h] at ez; exact a.2 j z ez
    · rw [List.getElem?_append_right (by omega)] at ez
      have : j - acc.length = 0 := by
        rcases Nat.eq_zero_or_pos (j - acc.length) with q | q
        · exact q
        · rw [List.getElem?_cons, if_neg (by omega)] at ez; simp at ez
      rw [this] at ez
      cases ez
      have : j = i := by omega
      rw [this]; exact r⟩ ab
  have e2 : (fun σ1 S1 => el σ1 S1 K) = fun σ1 S1 => (fun (_ : Env) S (Q : Bool → Sto → Prop) => Q true S) σ1 S1 fun b S2 => (b = true → el σ1 S2 K) := by
    funext σ1 S1
    exact propext ⟨fun h _ => h, fun h => h rfl⟩
  rw [e2] at step
  have e3 : (fun σ1 S1 => (fun (_ : Env) S (Q : Bool → Sto → Prop) => Q true S) σ1 S1 fun b S2 => (b = true → el σ1 S2 K) ∧ (b = false → K' S2)) = fun σ1 S1 => (fun (_ : Env) S (Q : Bool → Sto → Prop) => Q true S) σ1 S1 fun b S2 => (b = true → el σ1 S2 K) := by
    funext σ1 S1
    exact propext ⟨fun h => h.1, fun h => ⟨h, fun z => by cases z⟩⟩
  rw [e3]
  exact step
end
section
variable {chk : Sto → Prop} {tg : D → Env → Sto → QS → Prop} {b : En → Env → Sto → Prop} {c : Env → Sto → (Bool → Sto → Prop) → Prop} {N : En} {ds : List D}
theorem for_gen (I : Nat → Env → Sto → Prop)
    (hs : ∀ i d σ S, ds[i]? = some d → I i σ S → chk S ∧ ∀ K : QS, (∀ σ' S' S3, I (i + 1) σ' S3 → Abs S3 S' → K σ' S') → tg d σ S fun σ1 S1 => b { N with nx := K, ct := K, bk := N.nx } σ1 S1)
    (hd : ∀ σ S, I ds.length σ S → chk S ∧ N.nx σ S) {σ : Env} {S : Sto} (h0 : I 0 σ S) : loopF chk tg b N ds σ S := by
  have go : ∀ n i σ S, n + i = ds.length → I i σ S → loopF chk tg b N (ds.drop i) σ S := by
    intro n
    induction n with
    | zero =>
      intro i σ S e a
      have e : i = ds.length := by omega
      subst e
      rw [List.drop_length]
      exact hd _ _ a
    | succ n ih =>
      intro i σ S e a
      have hlt : i < ds.length := by omega
      rw [List.drop_eq_getElem_cons hlt]
      obtain ⟨h1, h2⟩ := hs i _ σ S (List.getElem?_eq_getElem hlt) a
      exact ⟨h1, h2 _ fun σ' S' S3 a' ab => ⟨S3, ab, ih (i + 1) _ _ (by omega) a'⟩⟩
  exact go ds.length 0 σ S (by omega) h0
theorem whl_gen (I : Nat → Env → Sto → Prop)
    (hs : ∀ n σ S, I n σ S → ∀ K : QS, (∀ m σ' S' S3, m < n → I m σ' S3 → Abs S3 S' → K σ' S') → c σ S fun t S1 => (t = true → b { N with nx := K, ct := K, bk := N.nx } σ S1) ∧ (t = false → N.nx σ S1)) {n : Nat} {σ : Env} {S : Sto} (h0 : I n σ S) : ∃ n, loopW c b N n σ S := by
  have go : ∀ n m σ S, m ≤ n → I m σ S → loopW c b N (n + 1) σ S := by
    intro n
    induction n with
    | zero =>
      intro m σ S e a
      exact hs m σ S a _ fun m' _ _ _ hm _ _ => by omega
    | succ n ih =>
      intro m σ S e a
      exact hs m σ S a _ fun m' σ' S' S3 hm a' ab => ⟨S3, ab, ih m' σ' S3 (by omega) a'⟩
  exact ⟨n + 1, go n n σ S (Nat.le_refl _) h0⟩
end
theorem rngL_get {a b : Int} {i : Nat} {d : D} (h : (rngL a b)[i]? = some d) : d = .int (a + (i : Nat)) ∧ (i : Int) < b - a := by
  unfold rngL at h
  rw [List.getElem?_map] at h
  obtain ⟨j, e1, e2⟩ := Option.map_eq_some_iff.mp h
  obtain ⟨h1, h2⟩ := List.getElem?_eq_some_iff.mp e1
  rw [List.getElem_range] at h2
  rw [List.length_range] at h1
  subst h2
  exact ⟨e2.symm, by omega⟩
theorem rngL_len {a b : Int} : (rngL a b).length = (b - a).toNat := by
  unfold rngL; rw [List.length_map, List.length_range]
section
variable {S : Sto} {Q : QE} {a : Nat} {ds : List D} {x : Str}
theorem m_join {ys : List Str} {d : D} (h : seqOf d S = some ds) (h2 : strsOf ds = some ys) : bmM .join (.str x) [d] S Q = ((ys.map fun y : Str => y.length).sum + ys.length * x.length ≤ 16777216 ∧ Q (.str (Txt.join x ys)) S) := by
  show (match seqOf d S with
    | some ds => (match strsOf ds with
      | some ys => (ys.map fun y : Str => y.length).sum + ys.length * x.length ≤ 16777216 ∧ Q (.str (Txt.join x ys)) S
      | none => False)
    | none => False) = _
  rw [h]
  show (match strsOf ds with
      | some ys => (ys.map fun y : Str => y.length).sum + ys.length * x.length ≤ 16777216 ∧ Q (.str (Txt.join x ys)) S
      | none => False) = _
  rw [h2]
theorem seq_lst (h : S a = some (.lst ds)) : seqOf (.ref a) S = some ds := by
  show (match S a with | some (.lst ds) => some ds | some (.rol ds) => some ds | _ => none) = _
  rw [h]
theorem seq_rol (h : S a = some (.rol ds)) : seqOf (.ref a) S = some ds := by
  show (match S a with | some (.lst ds) => some ds | some (.rol ds) => some ds | _ => none) = _
  rw [h]
theorem strs_all : ∀ {ds : List D}, (∀ (i : Nat) y, ds[i]? = some y → ∃ x : Str, y = .str x ∧ x.length = 1) → ∃ ys : List Str, strsOf ds = some ys ∧ ys.length = ds.length ∧ ∀ y ∈ ys, y.length = 1
  | [], _ => ⟨[], rfl, rfl, by simp⟩
  | d :: ds, h => by
    obtain ⟨x, rfl, hx⟩ := h 0 d rfl
    obtain ⟨ys, h1, h2, h3⟩ := strs_all (ds := ds) fun i y e => h (i + 1) y e
    refine ⟨x :: ys, ?_, by simp [h2], fun y hy => ?_⟩
    · show (strsOf ds).map (x :: ·) = _
      rw [h1]; rfl
    · rcases List.mem_cons.mp hy with z | z
      · rw [z]; exact hx
      · exact h3 y z
theorem sum_ones : ∀ {ys : List Str}, (∀ y ∈ ys, y.length = 1) → (ys.map fun y : Str => y.length).sum = ys.length
  | [], _ => rfl
  | y :: ys, h => by
    rw [List.map_cons, List.sum_cons, h y (List.mem_cons_self ..), sum_ones fun z hz => h z (List.mem_cons_of_mem _ hz), List.length_cons]; omega
end
end Lr
namespace Lr
open PySem L2
section
variable {S : Sto} {Q : QE} {a : Nat} {ds : List D} {x : Str} {i j : Int} {fl : String → String → Bool} {B : Bool → Prop}
theorem f_lens (h : x.length ≤ sizeLine) : bfM fl .len [.str x] S Q = Q (.int x.length) S := propext ⟨fun h => h.2, fun z => ⟨h, z⟩⟩
theorem f_lenl (h : S a = some (.lst ds)) : bfM fl .len [.ref a] S Q = Q (.int ds.length) S := by
  show (match S a with
    | some (.dct _ kvs) => Q (.int kvs.length) S
    | some (.lst ds) => Q (.int ds.length) S
    | some (.rol ds) => Q (.int ds.length) S
    | _ => False) = _
  rw [h]
theorem f_lenr (h : S a = some (.rol ds)) : bfM fl .len [.ref a] S Q = Q (.int ds.length) S := by
  show (match S a with
    | some (.dct _ kvs) => Q (.int kvs.length) S
    | some (.lst ds) => Q (.int ds.length) S
    | some (.rol ds) => Q (.int ds.length) S
    | _ => False) = _
  rw [h]
theorem f_lent : bfM fl .len [.tup ds] S Q = Q (.int ds.length) S := rfl
theorem f_max2 : bfM fl .max2 [.int i, .int j] S Q = Q (.int (if j > i then j else i)) S := rfl
theorem f_min2 : bfM fl .min2 [.int i, .int j] S Q = Q (.int (if j < i then j else i)) S := rfl
theorem f_intb {b : Bool} : bfM fl .int_ [.bl b] S Q = Q (.int (if b = true then 1 else 0)) S := rfl
theorem f_int : bfM fl .int_ [.int i] S Q = Q (.int i) S := rfl
theorem f_all {bs : List Bool} (h : S a = some (.lst ds)) (h2 : blsOf ds = some bs) : bfM fl .all [.ref a] S Q = Q (.bl (bs.all id)) S := by
  show (match seqOf (.ref a) S with
    | some ds => (match blsOf ds with | some bs => Q (.bl (bs.all id)) S | none => False)
    | none => False) = _
  rw [seq_lst h]
  show (match blsOf ds with | some bs => Q (.bl (bs.all id)) S | none => False) = _
  rw [h2]
theorem f_isb {b : Bool} : bfM fl .isinst [.bl b, .ty "bool"] S Q = Q (.bl true) S := rfl
theorem t_bl {b : Bool} : truM (.bl b) S B = B b := rfl
theorem m_ext {es : List D} {d : D} (h : S a = some (.lst ds)) (h2 : extOf d S = some es) : bmM .extend (.ref a) [d] S Q = (ds.length + es.length ≤ sizeLine ∧ Q .non (S.put a (.lst (ds ++ es)))) := by
  show (match S a with
    | some (.lst ds) => (match extOf d S with
      | some es => ds.length + es.length ≤ sizeLine ∧ Q .non (S.put a (.lst (ds ++ es)))
      | none => False)
    | _ => False) = _
  rw [h]
  show (match extOf d S with
      | some es => ds.length + es.length ≤ sizeLine ∧ Q .non (S.put a (.lst (ds ++ es)))
      | none => False) = _
  rw [h2]
theorem m_app {d : D} (h : S a = some (.lst ds)) : bmM .append (.ref a) [d] S Q = (ds.length < sizeLine ∧ Q .non (S.put a (.lst (ds ++ [d])))) := by
  show (match S a with
    | some (.lst ds) => ds.length < sizeLine ∧ Q .non (S.put a (.lst (ds ++ [d])))
    | _ => False) = _
  rw [h]
theorem bb_l {m : Bm} (h : S a = some (.lst ds)) (hm : bmT m = "list") : bmB m (.ref a) S = true := by
  unfold bmB; rw [hm]
  show (match S a with | some (.lst _) => true | some (.rol _) => true | _ => false) = true
  rw [h]
theorem bb_s {m : Bm} (hm : bmT m = "str") : bmB m (.str x) S = true := by
  unfold bmB; rw [hm]; rfl
theorem ext_lst (h : S a = some (.lst ds)) : extOf (.ref a) S = some ds := by
  show (match S a with | some (.lst ds) => some ds | _ => none) = _
  rw [h]
theorem s_str {lo hi : Option Int} (h : x.length ≤ sizeLine) : slM (.str x) lo hi S Q = Q (.str (cutS x lo hi)) S := propext ⟨fun h => h.2, fun z => ⟨h, z⟩⟩
theorem s_lst {lo hi : Option Int} (h : S a = some (.lst ds)) : slM (.ref a) lo hi S Q = ∀ p, S p = none → Q (.ref p) (S.put p (.lst (cutL ds lo hi))) := by
  show (match S a with
    | some (.lst ds) => ∀ p, S p = none → Q (.ref p) (S.put p (.lst (cutL ds lo hi)))
    | some (.rol ds) => ∀ p, S p = none → Q (.ref p) (S.put p (.lst (cutL ds lo hi)))
    | _ => False) = _
  rw [h]
theorem i_lst (h : S a = some (.lst ds)) {T : List D → Prop} : itemsM (.ref a) S T = T ds := by
  show (match S a with | some (.lst ds) => T ds | some (.rol ds) => T ds | _ => False) = _
  rw [h]
theorem i_str {T : List D → Prop} : itemsM (.str x) S T = T (x.cps.toList.map fun c => .str ⟨#[c]⟩) := rfl
theorem int_a {T : Option Int → Prop} : intArg (.int i) T = T (some i) := rfl
end
theorem atI_in {α : Type} {xs : List α} {i : Int} (h0 : 0 ≤ i) (h1 : i < xs.length) : ∃ d, atI xs i = some d ∧ xs[i.toNat]? = some d := by
  unfold atI ixN
  rw [if_pos h0, if_pos h1]
  exact ⟨xs[i.toNat], by simp⟩
theorem atI_ints {ns : List Int} {i : Int} (h0 : 0 ≤ i) (h1 : i < ns.length) : ∃ z, atI (ns.map D.int) i = some (.int z) := by
  obtain ⟨d, h2, h3⟩ := atI_in (xs := ns.map D.int) h0 (by simpa using h1)
  rw [List.getElem?_map] at h3
  obtain ⟨z, _, e⟩ := Option.map_eq_some_iff.mp h3
  exact ⟨z, by rw [h2, ← e]⟩
theorem atI_str {z : List Nat} {i : Int} (h0 : 0 ≤ i) (h1 : i < z.length) : ∃ c, atI z i = some c := by
  obtain ⟨d, h2, h3⟩ := atI_in h0 h1
  exact ⟨d, h2⟩
end Lr
namespace Lr
open PySem L2
theorem len_cut (z : Str) (lo hi : Option Int) : (cutS z lo hi).length ≤ z.length := by
  show (((z.cps.toList.drop _).take _).toArray).size ≤ z.cps.size
  rw [List.size_toArray, List.length_take, List.length_drop, Array.length_toList]
  omega
theorem len_app (a b : Str) : (a ++ b).length = a.length + b.length := Str.length_append a b
theorem len_mul {x : Str} {n : Int} {L N : Nat} (hx : x.length ≤ L) (hn : n ≤ (N : Int)) : (Txt.mul x n).length ≤ L * N := PyProof.Rows.len_mul_leN hx hn
theorem atI_mem {α : Type} {xs : List α} {i : Int} (h0 : 0 ≤ i) (h1 : i < xs.length) : ∃ d, atI xs i = some d ∧ d ∈ xs := by
  obtain ⟨d, h2, h3⟩ := atI_in h0 h1
  exact ⟨d, h2, List.mem_of_getElem? h3⟩
theorem Sub.fresh {S S' : Sto} {p : Nat} {o : MO} (h : Sub S S') (hp : S' p = none) : Sub S (S'.put p o) := h.trans (Sub.put hp)
/-- an item of a list just made, all items R -/
theorem x_new {S : Sto} {Q : QE} {p : Nat} {ds : List D} {i : Int} (h0 : 0 ≤ i) (h1 : i < ds.length) (h : ∀ d ∈ ds, Q d (S.put p (.lst ds))) : ixM (.ref p) (.int i) (S.put p (.lst ds)) Q := by
  obtain ⟨d, h2, h3⟩ := atI_mem h0 h1
  rw [x_lst Sto.put_same h2]
  exact h d h3
theorem x_sign {S : Sto} {Q : QE} {x : Str} {i : Int} (h0 : 0 ≤ i) (h1 : i < x.length) (hz : x.length ≤ sizeLine) (h : ∀ c : Nat, Q (.str ⟨#[c]⟩) S) : ixM (.str x) (.int i) S Q := by
  obtain ⟨c, hc⟩ := atI_str (z := x.cps.toList) h0 (by rw [Array.length_toList]; exact h1)
  rw [x_str hz hc]
  exact h c
theorem small_len {x : Str} {n : Nat} (h : x.length ≤ n) (hn : n ≤ 1000 := by decide) : x.length ≤ sizeLine := by rw [sizeLine_eq]; omega
end Lr
namespace Lr
open PySem L2
theorem eq_map {α : Type} {ys : List D} {l : List α} {f : α → D} (hl : ys.length = l.length) (h : ∀ (i : Nat) y, ys[i]? = some y → ∃ c, l[i]? = some c ∧ y = f c) : ys = l.map f := by
  apply List.ext_getElem?
  intro i
  rw [List.getElem?_map]
  cases e : ys[i]? with
  | some y =>
    obtain ⟨c, h1, h2⟩ := h i y e
    rw [h1, h2]; rfl
  | none =>
    rw [List.getElem?_eq_none_iff] at e
    rw [List.getElem?_eq_none (by omega)]; rfl
theorem bls_map : ∀ bs : List Bool, blsOf (bs.map .bl) = some bs
  | [] => rfl
  | b :: r => by show (blsOf (r.map .bl)).map (b :: ·) = _; rw [bls_map r]; rfl
theorem ints_map : ∀ bs : List Int, intsOf (bs.map .int) = some bs
  | [] => rfl
  | b :: r => by show (intsOf (r.map .int)).map (b :: ·) = _; rw [ints_map r]; rfl
theorem strs_map : ∀ bs : List Str, strsOf (bs.map .str) = some bs
  | [] => rfl
  | b :: r => by show (strsOf (r.map .str)).map (b :: ·) = _; rw [strs_map r]; rfl
section
variable {S : Sto} {B : Bool → Prop} {ds : List D} {x z : Str} {c : Nat}
theorem mem_kts (hf : ds.all flatD = true) : cmpM .mem (.str x) (.kt ds) S B = B (ds.any fun y => eqF y (.str x)) := by
  show memM.memF (.str x) ds S B = _
  unfold memM.memF
  rw [hf]; rfl
theorem mem_tups (hf : ds.all flatD = true) : cmpM .mem (.str x) (.tup ds) S B = B (ds.any fun y => eqF y (.str x)) := by
  show memM.memF (.str x) ds S B = _
  unfold memM.memF
  rw [hf]; rfl
theorem mem_sign : cmpM .mem (.str ⟨#[c]⟩) (.str z) S B = B (decide (c ∈ z.cps.toList)) := rfl
theorem nmem_sign : cmpM .nmem (.str ⟨#[c]⟩) (.str z) S B = B (!decide (c ∈ z.cps.toList)) := rfl
end
def strD (xs : List Str) : List D := xs.map .str
theorem pyWs_str {f : Nat → Option PyData} : ∀ xs : List Str, D.pyWs f (xs.map .str) = some (xs.map .str)
  | [] => rfl
  | x :: r => by
    show (match D.pyW f (.str x), D.pyWs f (r.map .str) with | some x, some xs => some (x :: xs) | _, _ => none) = _
    rw [pyWs_str r]; rfl
theorem pyv_strs {S : Sto} {a : Nat} {xs : List Str} (h : S a = some (.lst (xs.map .str))) : pyv S (.ref a) = some (.list (xs.map .str)) := by
  show (match S a with
    | some (.lst ds) => (D.pyWs (pyA S 15) ds).map PyData.list
    | some (.rol ds) => (D.pyWs (pyA S 15) ds).map PyData.list
    | _ => none) = _
  rw [h]
  show (D.pyWs (pyA S 15) (xs.map .str)).map PyData.list = _
  rw [pyWs_str]; rfl
theorem eq_data {S : Sto} {a b : Nat} {d e : PyData} {B : Bool → Prop} (h : pyv S (.ref a) = some d) (h' : pyv S (.ref b) = some e) (hd : d.depth ≤ 64 ∨ e.depth ≤ 64) (q : B (PyData.eqv d e)) : cmpM .eq (.ref a) (.ref b) S B := by
  show (match pyv S (.ref a), pyv S (.ref b) with
    | some d, some e => (d.depth ≤ 64 ∨ e.depth ≤ 64) ∧ B (PyData.eqv d e)
    | _, _ => eqM.eqDM (.ref a) (.ref b) S B)
  rw [h, h']
  exact ⟨hd, q⟩
end Lr
namespace Lr
open PySem L2
theorem atI_neg1 {α : Type} {xs : List α} (h : xs ≠ []) : ∃ d, atI xs (-1) = some d ∧ d ∈ xs := by
  have hl : 0 < xs.length := List.length_pos_iff.mpr h
  unfold atI ixN
  rw [if_neg (by decide), if_pos (by omega)]
  have e : ((-1 : Int) + (xs.length : Int)).toNat = xs.length - 1 := by omega
  rw [e]
  refine ⟨xs[xs.length - 1], ?_, List.getElem_mem ..⟩
  show xs[xs.length - 1]? = _
  rw [List.getElem?_eq_getElem]
theorem cutL_mem {α : Type} {xs : List α} {lo hi : Option Int} {d : α} (h : d ∈ cutL xs lo hi) : d ∈ xs := List.mem_of_mem_drop (List.mem_of_mem_take h)
theorem cutL_len {α : Type} (xs : List α) (lo hi : Option Int) : (cutL xs lo hi).length ≤ xs.length := by
  unfold cutL
  rw [List.length_take, List.length_drop]; omega
end Lr
namespace Lr
open PySem L2
section
variable {S : Sto} {Q : QE} {a : Nat} {ds : List D} {fl : String → String → Bool}
theorem f_tupl (h : S a = some (.lst ds)) : bfM fl .tuple [.ref a] S Q = Q (.tup ds) S := by
  show (match seqOf (.ref a) S with | some ds => Q (.tup ds) S | none => False) = _
  rw [seq_lst h]
theorem s_rol {lo hi : Option Int} (h : S a = some (.rol ds)) : slM (.ref a) lo hi S Q = ∀ p, S p = none → Q (.ref p) (S.put p (.lst (cutL ds lo hi))) := by
  show (match S a with
    | some (.lst ds) => ∀ p, S p = none → Q (.ref p) (S.put p (.lst (cutL ds lo hi)))
    | some (.rol ds) => ∀ p, S p = none → Q (.ref p) (S.put p (.lst (cutL ds lo hi)))
    | _ => False) = _
  rw [h]
end
/-- a tree of tuples, n deep -/
def tree : Nat → D → Prop
  | 0, d => flatD d = true
  | n + 1, d => flatD d = true ∨ ∃ ds, d = .tup ds ∧ ds.length ≤ 1000 ∧ ∀ x ∈ ds, tree n x
theorem tree.up : ∀ {n : Nat} {d : D}, tree n d → tree (n + 1) d
  | 0, _, h => .inl h
  | n + 1, d, h => by
    rcases h with h | ⟨ds, h1, h2, h3⟩
    · exact .inl h
    · exact .inr ⟨ds, h1, h2, fun x hx => (h3 x hx).up⟩
end Lr
namespace Lr
open PySem L2
section
variable {S : Sto} {Q : QE} {x t : D} {cs : List D} {b : Bool} {fl : String → String → Bool} {n : String}
theorem isi_any (h1 : tyOf x S = some t) (h2 : cs ≠ []) (h3 : cs.all isTyD = true) (h4 : isAny fl t cs = some b) : bfM fl .isinst [x, .key cs] S Q = Q (.bl b) S := by
  show (match tyOf x S with
    | some t => cs ≠ [] ∧ cs.all isTyD = true ∧ (match isAny fl t cs with | some b => Q (.bl b) S | none => False)
    | none => False) = _
  rw [h1]
  show (cs ≠ [] ∧ cs.all isTyD = true ∧ (match isAny fl t cs with | some b => Q (.bl b) S | none => False)) = _
  rw [h4]
  exact propext ⟨fun h => h.2.2, fun h => ⟨h2, h3, h⟩⟩
theorem isi_one (h1 : tyOf x S = some t) (h4 : isOne fl t (.ty n) = some b) : bfM fl .isinst [x, .ty n] S Q = Q (.bl b) S := by
  show (match tyOf x S with
    | some t => (match isOne fl t (.ty n) with | some b => Q (.bl b) S | none => False)
    | none => False) = _
  rw [h1]
  show (match isOne fl t (.ty n) with | some b => Q (.bl b) S | none => False) = _
  rw [h4]
theorem flat_ty (h : flatD x = true) (S : Sto) : ∃ m, tyOf x S = some (.ty m) ∧ (m = "NoneType" ∨ m = "bool" ∨ m = "int" ∨ m = "str") := by
  cases x <;> first | exact absurd h Bool.false_ne_true | exact ⟨_, rfl, by simp⟩
theorem flat_lt (h : flatD x = true) : bfM fl .isinst [x, .key [.ty "list", .ty "tuple"]] S Q = Q (.bl false) S := by
  obtain ⟨m, h1, h2⟩ := flat_ty h S
  rcases h2 with rfl | rfl | rfl | rfl <;> exact isi_any h1 (by simp) rfl rfl
theorem flat_b (h : flatD x = true) : ∃ b, ∀ (S : Sto) (Q : QE), bfM fl .isinst [x, .ty "bool"] S Q = Q (.bl b) S := by
  cases x <;> first | exact absurd h Bool.false_ne_true | exact ⟨_, fun _ _ => isi_one rfl rfl⟩
theorem flat_eq {B : Bool → Prop} (h : flatD x = true) : cmpM .eq x x S B = B true := by
  cases x with
  | non => rfl
  | bl b => show B (decide (b = b)) = _; rw [decide_eq_true rfl]
  | int b => show B (decide (b = b)) = _; rw [decide_eq_true rfl]
  | str b => show B (decide (b = b)) = _; rw [decide_eq_true rfl]
  | _ => exact absurd h Bool.false_ne_true
theorem tup_lt {ds : List D} : bfM fl .isinst [.tup ds, .key [.ty "list", .ty "tuple"]] S Q = Q (.bl true) S := isi_any rfl (by simp) rfl rfl
theorem tup_t {ds : List D} : bfM fl .isinst [.tup ds, .ty "tuple"] S Q = Q (.bl true) S := isi_one rfl rfl
theorem tup_l {ds : List D} : bfM fl .isinst [.tup ds, .ty "list"] S Q = Q (.bl false) S := isi_one rfl rfl
end
end Lr
namespace Lr
open PySem L2
section
variable {S : Sto} {Q : QE} {x y z u : D} {ds : List D}
theorem atI_n {α : Type} {xs : List α} {n : Nat} {d : α} (h : xs[n]? = some d) : atI xs (n : Int) = some d := L2.atI_nat h
theorem x_t0 : ixM (.tup (x :: ds)) (.int 0) S Q = Q x S := x_tup (atI_n (n := 0) rfl)
theorem x_t1 : ixM (.tup (x :: y :: ds)) (.int 1) S Q = Q y S := x_tup (atI_n (n := 1) rfl)
theorem x_t2 : ixM (.tup (x :: y :: z :: ds)) (.int 2) S Q = Q z S := x_tup (atI_n (n := 2) rfl)
theorem x_t3 : ixM (.tup (x :: y :: z :: u :: ds)) (.int 3) S Q = Q u S := x_tup (atI_n (n := 3) rfl)
theorem ofS {a b : String} : (Str.ofString a = Str.ofString b) = (a = b) := propext ⟨str_inj, fun h => by rw [h]⟩
end
end Lr
namespace Lr
open PySem L2
theorem Sto.put_id {S : Sto} {p : Nat} {o : MO} (h : S p = some o) : S.put p o = S := by
  funext b
  unfold Sto.put
  by_cases z : b = p
  · rw [if_pos z, z, h]
  · rw [if_neg z]
end Lr

set_option Elab.async false
set_option linter.all false
set_option maxRecDepth 100000
set_option maxHeartbeats 4000000
/-! part 14: looking up, by tactic -/
namespace Lr
open PySem L2
theorem ne_f {S : Sto} {a p : Nat} {o : MO} (h : S p = none) (h' : S a = some o) : a ≠ p := fun z => by subst z; rw [h] at h'; cases h'
theorem put_none {S : Sto} {p q : Nat} {o : MO} (h : (S.put p o) q = none) : S q = none := by
  by_cases z : q = p
  · subst z; rw [Sto.put_same] at h; cases h
  · rw [Sto.put_ne z] at h; exact h
theorem put_none_i {S : Sto} {p q : Nat} {o : MO} (z : q ≠ p) (h : S q = none) : (S.put p o) q = none := by rw [Sto.put_ne z]; exact h
theorem Sto.push {S : Sto} {p q : Nat} {o u o' : MO} (h : S p = some o') (z : p ≠ q) : (S.put q o).put p u = (S.put p u).put q o := by
  funext b
  unfold Sto.put
  by_cases h1 : b = p
  · subst h1; rw [if_pos rfl, if_neg z, if_pos rfl]
  · rw [if_neg h1]
    by_cases h2 : b = q
    · rw [if_pos h2, if_pos h2]
    · rw [if_neg h2, if_neg h2, if_neg h1]
theorem ne_put {S : Sto} {p q : Nat} {o : MO} (h : (S.put p o) q = none) : q ≠ p := fun z => by subst z; rw [Sto.put_same] at h; cases h
theorem Abs.put2r {S S' : Sto} {p : Nat} {o : MO} (a : Abs S S') : Abs (S.put p o) (S'.put p o) := a.put2 (.inl rfl)
theorem Abs.tput {S S' : Sto} {p : Nat} {o : MO} (h : S' p = none) (a : Abs S S') : Abs S (S'.put p o) := a.trans (Abs.put h)
theorem Sto.psh1 {S : Sto} {p q : Nat} {o u oq : MO} (hq : p ≠ q) : ((S.put p o).put q oq).put p u = ((S.put p u).put q oq) := by rw [Sto.push Sto.put_same hq, Sto.put_put]
theorem Sto.psh2 {S : Sto} {p q r : Nat} {o u oq or : MO} (hq : p ≠ q) (hr : p ≠ r) : (((S.put p o).put q oq).put r or).put p u = (((S.put p u).put q oq).put r or) := by rw [Sto.push (o' := o) (by rw [Sto.put_ne hq]; exact Sto.put_same) hr, Sto.psh1 hq]
theorem Sto.psh3 {S : Sto} {p q r t : Nat} {o u oq or ot : MO} (hq : p ≠ q) (hr : p ≠ r) (ht : p ≠ t) : ((((S.put p o).put q oq).put r or).put t ot).put p u = ((((S.put p u).put q oq).put r or).put t ot) := by rw [Sto.push (o' := o) (by rw [Sto.put_ne hr]; rw [Sto.put_ne hq]; exact Sto.put_same) ht, Sto.psh2 hq hr]
theorem Sto.psh4 {S : Sto} {p q r t v : Nat} {o u oq or ot ov : MO} (hq : p ≠ q) (hr : p ≠ r) (ht : p ≠ t) (hv : p ≠ v) : (((((S.put p o).put q oq).put r or).put t ot).put v ov).put p u = (((((S.put p u).put q oq).put r or).put t ot).put v ov) := by rw [Sto.push (o' := o) (by rw [Sto.put_ne ht]; rw [Sto.put_ne hr]; rw [Sto.put_ne hq]; exact Sto.put_same) hv, Sto.psh3 hq hr ht]
theorem Sto.psh5 {S : Sto} {p q r t v w : Nat} {o u oq or ot ov ow : MO} (hq : p ≠ q) (hr : p ≠ r) (ht : p ≠ t) (hv : p ≠ v) (hw : p ≠ w) : ((((((S.put p o).put q oq).put r or).put t ot).put v ov).put w ow).put p u = ((((((S.put p u).put q oq).put r or).put t ot).put v ov).put w ow) := by rw [Sto.push (o' := o) (by rw [Sto.put_ne hv]; rw [Sto.put_ne ht]; rw [Sto.put_ne hr]; rw [Sto.put_ne hq]; exact Sto.put_same) hw, Sto.psh4 hq hr ht hv]
theorem Sto.psh6 {S : Sto} {p q r t v w x : Nat} {o u oq or ot ov ow ox : MO} (hq : p ≠ q) (hr : p ≠ r) (ht : p ≠ t) (hv : p ≠ v) (hw : p ≠ w) (hx : p ≠ x) : (((((((S.put p o).put q oq).put r or).put t ot).put v ov).put w ow).put x ox).put p u = (((((((S.put p u).put q oq).put r or).put t ot).put v ov).put w ow).put x ox) := by rw [Sto.push (o' := o) (by rw [Sto.put_ne hw]; rw [Sto.put_ne hv]; rw [Sto.put_ne ht]; rw [Sto.put_ne hr]; rw [Sto.put_ne hq]; exact Sto.put_same) hx, Sto.psh5 hq hr ht hv hw]
/-mac-/
local macro_rules | `(tactic| walk_at "stk") => `(tactic| first | with_reducible assumption | with_reducible exact Sto.put_same | (rw [Sto.put_ne (by walk_at "stne")]; walk_at "stk"))
local macro_rules | `(tactic| walk_at "stne") => `(tactic| first | with_reducible assumption | with_reducible exact ne_put (by with_reducible assumption) | with_reducible exact (ne_put (by with_reducible assumption)).symm | with_reducible exact ne_put (put_none (by with_reducible assumption)) | with_reducible exact (ne_put (put_none (by with_reducible assumption))).symm | with_reducible exact ne_put (put_none (put_none (by with_reducible assumption))) | with_reducible exact (ne_put (put_none (put_none (by with_reducible assumption)))).symm | with_reducible exact ne_put (put_none (put_none (put_none (by with_reducible assumption)))) | with_reducible exact (ne_put (put_none (put_none (put_none (by with_reducible assumption))))).symm | with_reducible exact ne_put (put_none (put_none (put_none (put_none (by with_reducible assumption))))) | with_reducible exact (ne_put (put_none (put_none (put_none (put_none (by with_reducible assumption)))))).symm | with_reducible exact ne_put (put_none (put_none (put_none (put_none (put_none (by with_reducible assumption)))))) | with_reducible exact (ne_put (put_none (put_none (put_none (put_none (put_none (by with_reducible assumption))))))).symm | with_reducible exact ne_f (by with_reducible assumption) (by with_reducible assumption) | with_reducible exact (ne_f (by with_reducible assumption) (by with_reducible assumption)).symm | with_reducible exact ne_f (put_none (by with_reducible assumption)) (by with_reducible assumption) | with_reducible exact (ne_f (put_none (by with_reducible assumption)) (by with_reducible assumption)).symm | with_reducible exact ne_f (put_none (put_none (by with_reducible assumption))) (by with_reducible assumption) | with_reducible exact (ne_f (put_none (put_none (by with_reducible assumption))) (by with_reducible assumption)).symm | with_reducible exact ne_f (put_none (put_none (put_none (by with_reducible assumption)))) (by with_reducible assumption) | with_reducible exact (ne_f (put_none (put_none (put_none (by with_reducible assumption)))) (by with_reducible assumption)).symm | with_reducible exact ne_f (put_none (put_none (put_none (put_none (by with_reducible assumption))))) (by with_reducible assumption) | with_reducible exact (ne_f (put_none (put_none (put_none (put_none (by with_reducible assumption))))) (by with_reducible assumption)).symm | with_reducible exact ne_f (put_none (put_none (put_none (put_none (put_none (by with_reducible assumption)))))) (by with_reducible assumption) | with_reducible exact (ne_f (put_none (put_none (put_none (put_none (put_none (by with_reducible assumption)))))) (by with_reducible assumption)).symm)
local macro_rules | `(tactic| walk_at "stn") => `(tactic| first | with_reducible assumption | (rw [Sto.put_ne (by walk_at "stne")]; walk_at "stn") | with_reducible exact put_none (by with_reducible assumption) | with_reducible exact put_none (put_none (by with_reducible assumption)) | with_reducible exact put_none (put_none (put_none (by with_reducible assumption))) | with_reducible exact put_none (put_none (put_none (put_none (by with_reducible assumption)))) | with_reducible exact put_none (put_none (put_none (put_none (put_none (by with_reducible assumption))))) | with_reducible exact put_none (put_none (put_none (put_none (put_none (put_none (by with_reducible assumption)))))))
local macro_rules | `(tactic| walk_at "absT") => `(tactic| first | with_reducible exact Abs.refl _ | with_reducible assumption | ((with_reducible refine Abs.put2r ?_); walk_at "absT") | ((with_reducible refine Abs.tput ?_ ?_); (focus walk_at "stn"); walk_at "absT"))
local macro_rules | `(tactic| walk_at "dsc") => `(tactic| first | walk_at "stk" | walk_at "stne" | exact rfl | decide)
/-end mac-/
theorem hasF_t {P : Prog} {w : Wh} {f : String} {n m : Nat} {F : Sts} (h : P.fn f = some ⟨w, n, m, F⟩) : hasF P w f = True := eq_true ⟨_, h, rfl⟩
/-! statements cut in two -/
def Sts.take : Nat → Sts → Sts
  | n + 1, .cons s r => .cons s (Sts.take n r)
  | _, _ => .nil
def Sts.drop : Nat → Sts → Sts
  | n + 1, .cons _ r => Sts.drop n r
  | _, r => r
theorem Sts.take_z {r : Sts} : Sts.take 0 r = .nil := by cases r <;> rfl
theorem Sts.take_s {n : Nat} {s : St1} {r : Sts} : Sts.take (n + 1) (.cons s r) = .cons s (Sts.take n r) := rfl
theorem Sts.drop_z {r : Sts} : Sts.drop 0 r = r := by cases r <;> rfl
theorem Sts.drop_s {n : Nat} {s : St1} {r : Sts} : Sts.drop (n + 1) (.cons s r) = Sts.drop n r := rfl
theorem wpSs_cut {C : Ctx} {x : XE} : ∀ (n : Nat) (F : Sts) (D : En) (σ : Env) (S : Sto), wpSs C x F D σ S = wpSs C x (F.take n) { D with nx := fun σ1 S1 => wpSs C x (F.drop n) D σ1 S1 } σ S
  | 0, F, D, σ, S => by
    rw [Sts.take_z, Sts.drop_z]
    rw [wpSs]
  | n + 1, .nil, D, σ, S => by
    show wpSs C x .nil D σ S = wpSs C x .nil { D with nx := fun σ1 S1 => wpSs C x .nil D σ1 S1 } σ S
    rw [wpSs, wpSs]
    show _ = wpSs C x .nil D σ S
    rw [wpSs]
  | n + 1, .cons s r, D, σ, S => by
    show _ = wpSs C x (.cons s (r.take n)) { D with nx := fun σ1 S1 => wpSs C x (r.drop n) D σ1 S1 } σ S
    rw [wpSs, wpSs]
    congr 1
    congr 1
    funext σ1 S1
    exact wpSs_cut n r D σ1 S1
/-! plain data -/
mutual
def plainD : D → Bool
  | .non => true
  | .bl _ => true
  | .int _ => true
  | .str _ => true
  | .tup ds => plainDs ds
  | .kt ds => plainDs ds
  | .key ds => plainDs ds
  | _ => false
def plainDs : List D → Bool
  | [] => true
  | d :: ds => plainD d && plainDs ds
end
theorem plainDs_iff : ∀ {ds : List D}, plainDs ds = true ↔ ∀ d ∈ ds, plainD d = true
  | [] => by simp [plainDs]
  | d :: ds => by rw [plainDs, Bool.and_eq_true, plainDs_iff]; simp
/-! as data -/
mutual
def D.py : D → PyData
  | .non => .none
  | .bl b => .bool b
  | .int i => .int i
  | .str x => .str x
  | .tup ds => .tuple (D.pys ds)
  | .kt ds => .tuple (D.pys ds)
  | .key ds => .tuple (D.pys ds)
  | _ => .none
def D.pys : List D → List PyData
  | [] => []
  | d :: ds => D.py d :: D.pys ds
end
mutual
theorem pyW_plain (f : Nat → Option PyData) : ∀ d : D, plainD d = true → D.pyW f d = some d.py
  | .non, _ => rfl
  | .bl _, _ => rfl
  | .int _, _ => rfl
  | .str _, _ => rfl
  | .tup ds, h => by rw [D.pyW, pyWs_plain f ds (by simpa [plainD] using h)]; rfl
  | .kt ds, h => by rw [D.pyW, pyWs_plain f ds (by simpa [plainD] using h)]; rfl
  | .key ds, h => by rw [D.pyW, pyWs_plain f ds (by simpa [plainD] using h)]; rfl
  | .ref _, h => by simp [plainD] at h
  | .ty _, h => by simp [plainD] at h
  | .cl _, h => by simp [plainD] at h
theorem pyWs_plain (f : Nat → Option PyData) : ∀ ds : List D, plainDs ds = true → D.pyWs f ds = some (D.pys ds)
  | [], _ => rfl
  | d :: ds, h => by
    rw [plainDs, Bool.and_eq_true] at h
    rw [D.pyWs, pyW_plain f d h.1, pyWs_plain f ds h.2]; rfl
end
section
variable {S : Sto} {Q : QE} {a b : Nat} {ds es : List D} {d x : D} {i : Int} {B : Bool → Prop}
theorem pyv_plain (h : plainD d = true) : pyv S d = some d.py := pyW_plain _ d h
theorem pyv_lst (h : S a = some (.lst ds)) (hp : plainDs ds = true) : pyv S (.ref a) = some (.list (D.pys ds)) := by
  show (match S a with
    | some (.lst ds) => (D.pyWs (pyA S 15) ds).map PyData.list
    | some (.rol ds) => (D.pyWs (pyA S 15) ds).map PyData.list
    | _ => none) = _
  rw [h]
  show (D.pyWs (pyA S 15) ds).map PyData.list = _
  rw [pyWs_plain _ ds hp]; rfl
theorem eqv_nil : ∀ ds : List D, PyData.eqv (.list (D.pys ds)) (.list []) = ds.isEmpty
  | [] => rfl
  | d :: ds => rfl
theorem eq_nil (h : S a = some (.lst ds)) (h' : S b = some (.lst [])) (hd : plainDs ds = true) : cmpM .eq (.ref a) (.ref b) S B = B ds.isEmpty := by
  show (match pyv S (.ref a), pyv S (.ref b) with
    | some d, some e => (d.depth ≤ 64 ∨ e.depth ≤ 64) ∧ B (PyData.eqv d e)
    | _, _ => eqM.eqDM (.ref a) (.ref b) S B) = _
  rw [pyv_lst h hd, pyv_lst h' rfl]
  show ((_ ∨ (PyData.list []).depth ≤ 64) ∧ B (PyData.eqv (.list (D.pys ds)) (.list []))) = _
  rw [eqv_nil]
  exact propext ⟨fun h => h.2, fun h => ⟨.inr (by decide), h⟩⟩
theorem ne_nil (h : S a = some (.lst ds)) (h' : S b = some (.lst [])) (hd : plainDs ds = true) : cmpM .ne (.ref a) (.ref b) S B = B (!ds.isEmpty) := eq_nil (B := fun b => B (!b)) h h' hd
theorem m_pop1 {j : Nat} (h : S a = some (.lst ds)) (h1 : ixN ds.length i = some j) (h2 : ds[j]? = some d) : bmM .pop1 (.ref a) [.int i] S Q = Q d (S.put a (.lst (ds.eraseIdx j))) := by
  show (match S a with
    | some (.lst ds) => (match ixN ds.length i with
      | some j => (match ds[j]? with
        | some d => Q d (S.put a (.lst (ds.eraseIdx j)))
        | none => False)
      | none => False)
    | _ => False) = _
  rw [h]
  show (match ixN ds.length i with
      | some j => (match ds[j]? with
        | some d => Q d (S.put a (.lst (ds.eraseIdx j)))
        | none => False)
      | none => False) = _
  rw [h1]
  show (match ds[j]? with
        | some d => Q d (S.put a (.lst (ds.eraseIdx j)))
        | none => False) = _
  rw [h2]
theorem m_pop0 (h : S a = some (.lst ds)) (h2 : ds.getLast? = some d) : bmM .pop0 (.ref a) [] S Q = Q d (S.put a (.lst ds.dropLast)) := by
  show (match S a with
    | some (.lst ds) => (match ds.getLast? with
      | some d => Q d (S.put a (.lst ds.dropLast))
      | none => False)
    | _ => False) = _
  rw [h]
  show (match ds.getLast? with
      | some d => Q d (S.put a (.lst ds.dropLast))
      | none => False) = _
  rw [h2]
theorem lst_of (h : S a = some (.lst ds)) : lstOf (.ref a) S = some ds := by
  show (match S a with | some (.lst ds) => some ds | some (.rol ds) => some ds | _ => none) = _
  rw [h]
theorem f_max1 {fl : String → String → Bool} {ns : List Int} (h : S a = some (.lst ds)) (h2 : intsOf ds = some ns) : bfM fl .max1 [.ref a] S Q = (0 < ns.length ∧ ∀ m, m ∈ ns → (∀ y, y ∈ ns → y ≤ m) → Q (.int m) S) := by
  show (match seqOf (.ref a) S with
    | some ds => (match intsOf ds with | some ns => 0 < ns.length ∧ ∀ m, m ∈ ns → (∀ y, y ∈ ns → y ≤ m) → Q (.int m) S | none => False)
    | none => False) = _
  rw [seq_lst h]
  show (match intsOf ds with | some ns => 0 < ns.length ∧ ∀ m, m ∈ ns → (∀ y, y ∈ ns → y ≤ m) → Q (.int m) S | none => False) = _
  rw [h2]
theorem f_all_true {fl : String → String → Bool} (h : S a = some (.lst ds)) (h2 : ∀ (i : Nat) y, ds[i]? = some y → y = .bl true) : bfM fl .all [.ref a] S Q = Q (.bl true) S := by
  have ey := eq_map (l := ds) (f := fun _ => D.bl true) rfl (fun i y e => ⟨y, e, h2 i y e⟩)
  have ey : ds = (ds.map fun _ => true).map D.bl := by rw [List.map_map]; exact ey
  rw [f_all h (by rw [ey]; exact bls_map _)]
  have : ((ds.map fun _ => true).all id) = true := by
    rw [List.all_eq_true]; intro x hx
    obtain ⟨_, _, e⟩ := List.mem_map.mp hx
    rw [← e]; rfl
  rw [this]
theorem ty_lst (h : S a = some (.lst ds)) : tyOf (.ref a) S = some (.ty "list") := by
  show (match S a with | some (.lst _) => some (D.ty "list") | some (.rol _) => some (D.ty "list") | some (.dct _ _) => some (D.ty "dict") | some (.ins c _) => some (D.cl c) | _ => none) = _
  rw [h]
theorem ixN_in {n : Nat} (h0 : 0 ≤ i) (h1 : i < n) : ixN n i = some i.toNat := by
  unfold ixN; rw [if_pos h0, if_pos h1]
theorem s_tup {lo hi : Option Int} : slM (.tup ds) lo hi S Q = Q (.tup (cutL ds lo hi)) S := rfl
theorem cut1 : cutL (d :: ds) (some 1) none = ds := by
  unfold cutL
  show ((d :: ds).drop (HT.sIx (ds.length + 1) 0 (some 1))).take (HT.sIx (ds.length + 1) (ds.length + 1) none - HT.sIx (ds.length + 1) 0 (some 1)) = ds
  have e1 : HT.sIx (ds.length + 1) 0 (some 1) = 1 := by
    unfold HT.sIx
    simp
  have e2 : HT.sIx (ds.length + 1) (ds.length + 1) none = ds.length + 1 := rfl
  rw [e1, e2]
  simp
theorem cut01 : cutL (d :: ds) none (some 1) = [d] := by
  unfold cutL
  show ((d :: ds).drop (HT.sIx (ds.length + 1) 0 none)).take (HT.sIx (ds.length + 1) (ds.length + 1) (some 1) - HT.sIx (ds.length + 1) 0 none) = [d]
  have e1 : HT.sIx (ds.length + 1) (ds.length + 1) (some 1) = 1 := by
    unfold HT.sIx
    simp
  have e2 : HT.sIx (ds.length + 1) 0 none = 0 := rfl
  rw [e1, e2]
  simp
/-- isinstance -/
theorem is_str_s {fl : String → String → Bool} {z : Str} : bfM fl .isinst [.str z, .ty "str"] S Q = Q (.bl true) S := isi_one rfl rfl
theorem is_str_t {fl : String → String → Bool} : bfM fl .isinst [.tup ds, .ty "str"] S Q = Q (.bl false) S := isi_one rfl rfl
end
section
variable {chk : Sto → Prop} {tg : D → Env → Sto → QS → Prop} {t : Env → Sto → (Bool → Sto → Prop) → Prop} {el : Env → Sto → QE → Prop} {p : Nat} {σ : Env} {Q : Sto → Prop} {S0 : Sto}
/-- [e x for x in xs if f x], all plain -/
theorem lc_filt {α : Type} (xs : List α) (g : α → D) (f : α → Bool) (e : α → D) (hz : xs.length ≤ 100000) (hchk : ∀ acc, chk (S0.put p (.lst acc)))
    (hs : ∀ x ∈ xs, ∀ acc (K : QE) (K' : Sto → Prop), (f x = true → ∀ S3, Abs (S0.put p (.lst acc)) S3 → K (e x) S3) → (f x = false → ∀ S3, Abs (S0.put p (.lst acc)) S3 → K' S3) →
      tg (g x) σ (S0.put p (.lst acc)) fun σ1 S1 => t σ1 S1 fun b S2 => (b = true → el σ1 S2 K) ∧ (b = false → K' S2))
    (hd : Q (S0.put p (.lst ((xs.filter f).map e)))) : loopC chk tg t el p σ Q (xs.map g) (S0.put p (.lst [])) := by
  refine lc_gen (fun i acc => acc = ((xs.take i).filter f).map e) rfl (fun i acc a hi => ?_) hchk (fun i d acc e' a K K' k1 k2 => ?_) (fun acc a => ?_)
  · rw [a, List.length_map]
    have := List.length_filter_le f (xs.take i)
    rw [List.length_take] at this
    rw [sizeLine_eq]; omega
  · rw [List.getElem?_map] at e'
    obtain ⟨x, h1, h2⟩ := Option.map_eq_some_iff.mp e'
    subst h2
    have h3 : xs.take (i + 1) = xs.take i ++ [x] := by rw [List.take_add_one, h1]; rfl
    refine hs x (List.mem_of_getElem? h1) acc K K' (fun hf S3 ab => k1 _ _ ?_ ab) (fun hf S3 ab => k2 _ ?_ ab)
    · rw [h3, List.filter_append, List.map_append, a, List.filter_cons_of_pos hf]; rfl
    · rw [h3, List.filter_append, List.map_append, a, List.filter_cons_of_neg (by rw [hf]; decide)]; simp
  · rw [a, List.length_map, List.take_length]; exact hd
/-- [e x for x in xs], all plain -/
theorem lc_pure {α : Type} (xs : List α) (g : α → D) (e : α → D) (hz : xs.length ≤ 100000) (hchk : ∀ acc, chk (S0.put p (.lst acc)))
    (hs : ∀ x ∈ xs, ∀ acc (K : QE), (∀ S3, Abs (S0.put p (.lst acc)) S3 → K (e x) S3) → tg (g x) σ (S0.put p (.lst acc)) fun σ1 S1 => el σ1 S1 K)
    (hd : Q (S0.put p (.lst (xs.map e)))) : loopC chk tg (fun _ S Q => Q true S) el p σ Q (xs.map g) (S0.put p (.lst [])) := by
  refine lc_map (fun i y => ∃ x, xs[i]? = some x ∧ y = e x) (by rw [List.length_map]; exact hz) hchk (fun i d acc e' K hK => ?_) (fun ys hl hy => ?_)
  · rw [List.getElem?_map] at e'
    obtain ⟨x, h1, h2⟩ := Option.map_eq_some_iff.mp e'
    subst h2
    exact hs x (List.mem_of_getElem? h1) acc K fun S3 ab => hK _ _ ⟨x, h1, rfl⟩ ab
  · rw [List.length_map] at hl
    rw [eq_map hl hy]; exact hd
end
theorem perm_erase {α : Type} : ∀ {xs : List α} {i : Nat} {d : α}, xs[i]? = some d → (d :: xs.eraseIdx i).Perm xs
  | [], _, _, h => by simp at h
  | x :: xs, 0, d, h => by cases h; exact List.Perm.refl _
  | x :: xs, i + 1, d, h => by
    have ih := perm_erase (xs := xs) (i := i) (d := d) (by simpa using h)
    show (d :: x :: xs.eraseIdx i).Perm (x :: xs)
    exact (List.Perm.swap _ _ _).trans (ih.cons x)
/-- of each a choice -/
theorem choose_list {α : Type} {f : α → D} {R : Nat → α → Prop} : ∀ {ys : List D}, (∀ (i : Nat) y, ys[i]? = some y → ∃ c, R i c ∧ y = f c) → ∃ cs : List α, ys = cs.map f ∧ ∀ (i : Nat) c, cs[i]? = some c → R i c := by
  intro ys
  induction ys generalizing R with
  | nil => exact fun _ => ⟨[], rfl, fun i c e => by simp at e⟩
  | cons y ys ih =>
    intro h
    obtain ⟨c, h1, h2⟩ := h 0 y rfl
    obtain ⟨cs, h3, h4⟩ := ih (R := fun i => R (i + 1)) fun i y e => h (i + 1) y (by simpa using e)
    refine ⟨c :: cs, by rw [h2, h3]; rfl, fun i d e => ?_⟩
    cases i with
    | zero => cases e; exact h1
    | succ i => exact h4 i d (by simpa using e)
section
variable {S : Sto} {Q : QE} {a b : Nat} {ds es : List D} {kvs : List (D × D)} {t : Bool} {d k x : D} {z : Str} {i : Int} {B : Bool → Prop} {T : Sto → Prop}
theorem i_tup {T : List D → Prop} : itemsM (.tup ds) S T = T ds := rfl
theorem p_dct (h : S a = some (.dct t kvs)) : putM (.ref a) k d S T = (isKey t k = true ∧ kvs.length < sizeLine ∧ T (S.put a (.dct t (putD kvs k d)))) := by
  show (match S a with
    | some (.lst ds) => (match k with
      | .int i => (match ixN ds.length i with | some j => T (S.put a (.lst (ds.set j d))) | none => False)
      | _ => False)
    | some (.dct t kvs) => isKey t k = true ∧ kvs.length < sizeLine ∧ T (S.put a (.dct t (putD kvs k d)))
    | _ => False) = _
  rw [h]
theorem x_dct (h : S a = some (.dct t kvs)) : ixM (.ref a) k S Q = (isKey t k = true ∧ (match lookD kvs k with | some d => Q d S | none => False)) := by
  show (match S a with
    | some (.lst ds) => (match k with
      | .int i => (match atI ds i with | some d => Q d S | none => False)
      | _ => False)
    | some (.rol ds) => (match k with
      | .int i => (match atI ds i with | some d => Q d S | none => False)
      | _ => False)
    | some (.dct t kvs) => isKey t k = true ∧ (match lookD kvs k with | some d => Q d S | none => False)
    | _ => False) = _
  rw [h]
theorem f_listd {fl : String → String → Bool} (h : S a = some (.dct t kvs)) : bfM fl .list [.ref a] S Q = newL (kvs.map fun kv : D × D => kv.1) S Q := by
  show (match seqOf (.ref a) S with
    | some ds => newL ds S Q
    | none => (match S a with
      | some (.dct _ kvs) => newL (kvs.map fun kv : D × D => kv.1) S Q
      | _ => False)) = _
  have : seqOf (.ref a) S = none := by
    show (match S a with | some (.lst ds) => some ds | some (.rol ds) => some ds | _ => none) = none
    rw [h]
  rw [this]
  show (match S a with
      | some (.dct _ kvs) => newL (kvs.map fun kv : D × D => kv.1) S Q
      | _ => False) = _
  rw [h]
theorem f_listl {fl : String → String → Bool} (h : S a = some (.lst ds)) : bfM fl .list [.ref a] S Q = newL ds S Q := by
  show (match seqOf (.ref a) S with
    | some ds => newL ds S Q
    | none => (match S a with
      | some (.dct _ kvs) => newL (kvs.map fun kv : D × D => kv.1) S Q
      | _ => False)) = _
  rw [seq_lst h]
theorem f_listt {fl : String → String → Bool} : bfM fl .list [.tup ds] S Q = newL ds S Q := rfl
theorem f_lend {fl : String → String → Bool} (h : S a = some (.dct t kvs)) : bfM fl .len [.ref a] S Q = Q (.int kvs.length) S := by
  show (match S a with
    | some (.dct _ kvs) => Q (.int kvs.length) S
    | some (.lst ds) => Q (.int ds.length) S
    | some (.rol ds) => Q (.int ds.length) S
    | _ => False) = _
  rw [h]
theorem m_get2 (h : S a = some (.dct t kvs)) : bmM .get2 (.ref a) [k, d] S Q = (isKey t k = true ∧ Q ((lookD kvs k).getD d) S) := by
  show (match S a with
    | some (.dct t kvs) => isKey t k = true ∧ Q ((lookD kvs k).getD d) S
    | _ => False) = _
  rw [h]
theorem m_get1 (h : S a = some (.dct t kvs)) : bmM .get1 (.ref a) [k] S Q = (isKey t k = true ∧ Q ((lookD kvs k).getD .non) S) := by
  show (match S a with
    | some (.dct t kvs) => isKey t k = true ∧ Q ((lookD kvs k).getD .non) S
    | _ => False) = _
  rw [h]
theorem m_setd (h : S a = some (.dct false kvs)) : bmM .setdefault (.ref a) [k, d] S Q = (isKey false k = true ∧ kvs.length < sizeLine ∧ (match lookD kvs k with
      | some v => Q v S
      | none => Q d (S.put a (.dct false (putD kvs k d))))) := by
  show (match S a with
    | some (.dct false kvs) => isKey false k = true ∧ kvs.length < sizeLine ∧ (match lookD kvs k with
      | some v => Q v S
      | none => Q d (S.put a (.dct false (putD kvs k d))))
    | _ => False) = _
  rw [h]
theorem bb_d {m : Bm} (h : S a = some (.dct t kvs)) (hm : bmT m = "dict") : bmB m (.ref a) S = true := by
  unfold bmB; rw [hm]
  show (match S a with | some (.dct _ _) => true | _ => false) = true
  rw [h]
theorem f_dictp {fl : String → String → Bool} (h : pairsD ds = some kvs) : bfM fl .dictPairs [.tup ds] S Q = ((kvs.all fun kv => isKey false kv.1) = true ∧ ∀ p, S p = none → Q (.ref p) (S.put p (.dct false (mergeD [] kvs)))) := by
  show (match pairsD ds with
    | some kvs => (kvs.all fun kv => isKey false kv.1) = true ∧ ∀ p, S p = none → Q (.ref p) (S.put p (.dct false (mergeD [] kvs)))
    | none => False) = _
  rw [h]
theorem any_strs {xs : List Str} : ((xs.map D.str).any fun y => eqF y (.str z)) = decide (z ∈ xs) := by
  induction xs with
  | nil => rfl
  | cons y ys ih =>
    show ((y == z) || (ys.map D.str).any fun y => eqF y (.str z)) = _
    rw [ih]
    by_cases e : y = z
    · subst e; simp
    · have : ¬ z = y := fun q => e q.symm
      simp [e, this]
theorem all_strs {xs : List Str} : (xs.map D.str).all flatD = true := by
  rw [List.all_eq_true]
  intro d hd
  obtain ⟨x, _, rfl⟩ := List.mem_map.mp hd; rfl
theorem mem_strs {xs : List Str} (h : S a = some (.lst (xs.map .str))) : cmpM .mem (.str z) (.ref a) S B = B (decide (z ∈ xs)) := by
  show (match S a with
    | some (.lst ds) => memM.memF (.str z) ds S B
    | some (.rol ds) => memM.memF (.str z) ds S B
    | some (.dct t kvs) => isKey t (.str z) = true ∧ B (lookD kvs (.str z)).isSome
    | _ => False) = _
  rw [h]
  show memM.memF (.str z) (xs.map .str) S B = _
  unfold memM.memF
  rw [all_strs]
  show B _ = _
  rw [any_strs]
theorem nmem_strs {xs : List Str} (h : S a = some (.lst (xs.map .str))) : cmpM .nmem (.str z) (.ref a) S B = B (!decide (z ∈ xs)) := mem_strs (B := fun b => B (!b)) h
theorem mem_dct (h : S a = some (.dct t kvs)) : cmpM .mem k (.ref a) S B = (isKey t k = true ∧ B (lookD kvs k).isSome) := by
  cases k <;> (
    show (match S a with
      | some (.lst ds) => memM.memF _ ds S B
      | some (.rol ds) => memM.memF _ ds S B
      | some (.dct t kvs) => isKey t _ = true ∧ B (lookD kvs _).isSome
      | _ => False) = _
    rw [h])
theorem nmem_dct (h : S a = some (.dct t kvs)) : cmpM .nmem k (.ref a) S B = (isKey t k = true ∧ B (!(lookD kvs k).isSome)) := mem_dct (B := fun b => B (!b)) h
end
end Lr

set_option Elab.async false
set_option linter.all false
set_option maxRecDepth 100000
set_option maxHeartbeats 4000000
/-! part 15: terms, plainly -/
namespace Lr
open PySem L2
/-mac-/
local macro_rules | `(tactic| walk_at "stk") => `(tactic| first | with_reducible assumption | with_reducible exact Sto.put_same | (rw [Sto.put_ne (by walk_at "stne")]; walk_at "stk"))
local macro_rules | `(tactic| walk_at "stne") => `(tactic| first | with_reducible assumption | with_reducible exact ne_put (by with_reducible assumption) | with_reducible exact (ne_put (by with_reducible assumption)).symm | with_reducible exact ne_put (put_none (by with_reducible assumption)) | with_reducible exact (ne_put (put_none (by with_reducible assumption))).symm | with_reducible exact ne_put (put_none (put_none (by with_reducible assumption))) | with_reducible exact (ne_put (put_none (put_none (by with_reducible assumption)))).symm | with_reducible exact ne_put (put_none (put_none (put_none (by with_reducible assumption)))) | with_reducible exact (ne_put (put_none (put_none (put_none (by with_reducible assumption))))).symm | with_reducible exact ne_put (put_none (put_none (put_none (put_none (by with_reducible assumption))))) | with_reducible exact (ne_put (put_none (put_none (put_none (put_none (by with_reducible assumption)))))).symm | with_reducible exact ne_put (put_none (put_none (put_none (put_none (put_none (by with_reducible assumption)))))) | with_reducible exact (ne_put (put_none (put_none (put_none (put_none (put_none (by with_reducible assumption))))))).symm | with_reducible exact ne_f (by with_reducible assumption) (by with_reducible assumption) | with_reducible exact (ne_f (by with_reducible assumption) (by with_reducible assumption)).symm | with_reducible exact ne_f (put_none (by with_reducible assumption)) (by with_reducible assumption) | with_reducible exact (ne_f (put_none (by with_reducible assumption)) (by with_reducible assumption)).symm | with_reducible exact ne_f (put_none (put_none (by with_reducible assumption))) (by with_reducible assumption) | with_reducible exact (ne_f (put_none (put_none (by with_reducible assumption))) (by with_reducible assumption)).symm | with_reducible exact ne_f (put_none (put_none (put_none (by with_reducible assumption)))) (by with_reducible assumption) | with_reducible exact (ne_f (put_none (put_none (put_none (by with_reducible assumption)))) (by with_reducible assumption)).symm | with_reducible exact ne_f (put_none (put_none (put_none (put_none (by with_reducible assumption))))) (by with_reducible assumption) | with_reducible exact (ne_f (put_none (put_none (put_none (put_none (by with_reducible assumption))))) (by with_reducible assumption)).symm | with_reducible exact ne_f (put_none (put_none (put_none (put_none (put_none (by with_reducible assumption)))))) (by with_reducible assumption) | with_reducible exact (ne_f (put_none (put_none (put_none (put_none (put_none (by with_reducible assumption)))))) (by with_reducible assumption)).symm)
local macro_rules | `(tactic| walk_at "stn") => `(tactic| first | with_reducible assumption | (rw [Sto.put_ne (by walk_at "stne")]; walk_at "stn") | with_reducible exact put_none (by with_reducible assumption) | with_reducible exact put_none (put_none (by with_reducible assumption)) | with_reducible exact put_none (put_none (put_none (by with_reducible assumption))) | with_reducible exact put_none (put_none (put_none (put_none (by with_reducible assumption)))) | with_reducible exact put_none (put_none (put_none (put_none (put_none (by with_reducible assumption))))) | with_reducible exact put_none (put_none (put_none (put_none (put_none (put_none (by with_reducible assumption)))))))
local macro_rules | `(tactic| walk_at "absT") => `(tactic| first | with_reducible exact Abs.refl _ | with_reducible assumption | ((with_reducible refine Abs.put2r ?_); walk_at "absT") | ((with_reducible refine Abs.tput ?_ ?_); (focus walk_at "stn"); walk_at "absT"))
local macro_rules | `(tactic| walk_at "dsc") => `(tactic| first | walk_at "stk" | walk_at "stne" | exact rfl | decide)
/-end mac-/
mutual
/-- a term, then each in it -/
def pre : D → List D
  | .tup ds => .tup ds :: preT ds
  | d => [d]
def preT : List D → List D
  | [] => []
  | _ :: ts => preS ts
def preS : List D → List D
  | [] => []
  | t :: ts => pre t ++ preS ts
end
mutual
/-- how deep -/
def dp : D → Nat
  | .tup ds => dpT ds
  | _ => 0
def dpT : List D → Nat
  | [] => 0
  | _ :: ts => match ts with
    | [] => 0
    | _ :: _ => 1 + dpM ts
def dpM : List D → Nat
  | [] => 0
  | t :: ts => max (dp t) (dpM ts)
end
/-- a term of makers W, names V, n deep -/
def Tm (W : Str → Nat → Prop) (V : Str → Prop) : Nat → D → Prop
  | 0, d => (∃ x, V x ∧ d = .str x) ∨ ∃ w, W w 0 ∧ d = .tup [.str w]
  | n + 1, d => (∃ x, V x ∧ d = .str x) ∨ ∃ w ts, W w ts.length ∧ d = .tup (.str w :: ts) ∧ ∀ t ∈ ts, Tm W V n t
theorem Tm.split {W : Str → Nat → Prop} {V : Str → Prop} {n : Nat} {d : D} (h : Tm W V n d) : (∃ x, V x ∧ d = .str x) ∨ ∃ w ts, W w ts.length ∧ d = .tup (.str w :: ts) ∧ ∀ t ∈ ts, ∃ m, m < n ∧ Tm W V m t := by
  cases n with
  | zero =>
    rcases h with h | ⟨w, h1, h2⟩
    · exact .inl h
    · exact .inr ⟨w, [], h1, h2, fun t h => by cases h⟩
  | succ n =>
    rcases h with h | ⟨w, ts, h1, h2, h3⟩
    · exact .inl h
    · exact .inr ⟨w, ts, h1, h2, fun t h => ⟨n, Nat.lt_succ_self n, h3 t h⟩⟩
theorem Tm.mono {W W' : Str → Nat → Prop} {V V' : Str → Prop} (hW : ∀ w n, W w n → W' w n) (hV : ∀ x, V x → V' x) : ∀ {n : Nat} {d : D}, Tm W V n d → Tm W' V' n d
  | 0, d, h => by
    rcases h with ⟨x, h1, h2⟩ | ⟨w, h1, h2⟩
    · exact .inl ⟨x, hV x h1, h2⟩
    · exact .inr ⟨w, hW w _ h1, h2⟩
  | n + 1, d, h => by
    rcases h with ⟨x, h1, h2⟩ | ⟨w, ts, h1, h2, h3⟩
    · exact .inl ⟨x, hV x h1, h2⟩
    · exact .inr ⟨w, ts, hW w _ h1, h2, fun t ht => (h3 t ht).mono hW hV⟩
theorem Tm.up {W : Str → Nat → Prop} {V : Str → Prop} : ∀ {n : Nat} {d : D}, Tm W V n d → Tm W V (n + 1) d
  | 0, d, h => by
    rcases h with h | ⟨w, h1, h2⟩
    · exact .inl h
    · exact .inr ⟨w, [], h1, h2, fun t h => by cases h⟩
  | n + 1, d, h => by
    rcases h with h | ⟨w, ts, h1, h2, h3⟩
    · exact .inl h
    · exact .inr ⟨w, ts, h1, h2, fun t ht => (h3 t ht).up⟩
theorem Tm.le {W : Str → Nat → Prop} {V : Str → Prop} {n m : Nat} {d : D} (h : Tm W V n d) (hm : n ≤ m) : Tm W V m d := by
  induction hm with
  | refl => exact h
  | step _ ih => exact ih.up
theorem Tm.plain {W : Str → Nat → Prop} {V : Str → Prop} : ∀ {n : Nat} {d : D}, Tm W V n d → plainD d = true
  | 0, d, h => by
    rcases h with ⟨x, h1, rfl⟩ | ⟨w, h1, rfl⟩ <;> rfl
  | n + 1, d, h => by
    rcases h with ⟨x, h1, rfl⟩ | ⟨w, ts, h1, rfl, h3⟩
    · rfl
    · show (true && plainDs ts) = true
      rw [Bool.true_and, plainDs_iff]
      exact fun t ht => (h3 t ht).plain
theorem preS_append : ∀ xs ys : List D, preS (xs ++ ys) = preS xs ++ preS ys
  | [], _ => rfl
  | x :: xs, ys => by
    show pre x ++ preS (xs ++ ys) = (pre x ++ preS xs) ++ preS ys
    rw [preS_append, List.append_assoc]
theorem preS_le {b : Nat} : ∀ {ts : List D}, (∀ t ∈ ts, (pre t).length ≤ b) → (preS ts).length ≤ ts.length * b
  | [], _ => by simp [preS]
  | t :: ts, h => by
    have h1 := h t (List.mem_cons_self ..)
    have h2 := preS_le fun x hx => h x (List.mem_cons_of_mem t hx)
    show (pre t ++ preS ts).length ≤ (ts.length + 1) * b
    rw [List.length_append, Nat.add_mul, Nat.one_mul]; omega
/-- makers of two at most: so many parts -/
theorem Tm.len {W : Str → Nat → Prop} {V : Str → Prop} (hW : ∀ w n, W w n → n ≤ 2) : ∀ {n : Nat} {d : D}, Tm W V n d → (pre d).length < 2 ^ (n + 1)
  | 0, d, h => by
    rcases h with ⟨x, h1, rfl⟩ | ⟨w, h1, rfl⟩ <;> exact (by decide : 1 < 2 ^ (0 + 1))
  | n + 1, d, h => by
    rcases h with ⟨x, h1, rfl⟩ | ⟨w, ts, h1, rfl, h3⟩
    · show 1 < _
      have : 2 ^ 1 ≤ 2 ^ (n + 1 + 1) := Nat.pow_le_pow_right (by decide) (by omega)
      omega
    · show (preS ts).length + 1 < _
      have hb : 0 < 2 ^ (n + 1) := Nat.pow_pos (by decide)
      have h4 := preS_le (b := 2 ^ (n + 1) - 1) (ts := ts) fun t ht => by have := (h3 t ht).len hW; omega
      have h5 : ts.length * (2 ^ (n + 1) - 1) ≤ 2 * (2 ^ (n + 1) - 1) := Nat.mul_le_mul_right _ (hW _ _ h1)
      rw [Nat.pow_succ 2 (n + 1)]; omega
theorem Tm.pos (d : D) : 1 ≤ (pre d).length := by
  cases d <;> simp [pre]
/-- each part of a term is a term -/
theorem Tm.parts {W : Str → Nat → Prop} {V : Str → Prop} : ∀ {n : Nat} {d : D}, Tm W V n d → ∀ x ∈ pre d, Tm W V n x
  | 0, d, h => by
    intro x hx
    rcases h with ⟨y, h1, rfl⟩ | ⟨w, h1, rfl⟩
    · rw [show x = .str y by simpa [pre] using hx]; exact .inl ⟨y, h1, rfl⟩
    · rw [show x = .tup [.str w] by simpa [pre, preT, preS] using hx]; exact .inr ⟨w, h1, rfl⟩
  | n + 1, d, h => by
    intro x hx
    rcases h with ⟨y, h1, rfl⟩ | ⟨w, ts, h1, rfl, h3⟩
    · rw [show x = .str y by simpa [pre] using hx]; exact .inl ⟨y, h1, rfl⟩
    · rcases List.mem_cons.mp hx with rfl | hx
      · exact .inr ⟨w, ts, h1, rfl, h3⟩
      · have go : ∀ ts : List D, (∀ t ∈ ts, Tm W V n t) → x ∈ preS ts → Tm W V n x := by
          intro ts
          induction ts with
          | nil => intro _ hx; cases hx
          | cons t ts ih =>
            intro h hx
            rcases List.mem_append.mp hx with hx | hx
            · exact (h t (List.mem_cons_self ..)).parts x hx
            · exact ih (fun u hu => h u (List.mem_cons_of_mem t hu)) hx
        exact (go ts h3 hx).up
theorem dpM_le {m : Nat} : ∀ {ts : List D}, (∀ y ∈ ts, dp y ≤ m) → dpM ts ≤ m
  | [], _ => Nat.zero_le _
  | t :: ts, h => Nat.max_le.mpr ⟨h t (List.mem_cons_self ..), dpM_le fun y hy => h y (List.mem_cons_of_mem _ hy)⟩
theorem le_dpM : ∀ {ts : List D} {t : D}, t ∈ ts → dp t ≤ dpM ts
  | u :: ts, t, h => by
    show dp t ≤ max (dp u) (dpM ts)
    rcases List.mem_cons.mp h with rfl | h
    · exact Nat.le_max_left _ _
    · exact Nat.le_trans (le_dpM h) (Nat.le_max_right _ _)
theorem dpM_max {ts : List D} {t : D} (h : ∀ y ∈ ts, dp y ≤ dp t) (ht : t ∈ ts) : dpM ts = dp t := Nat.le_antisymm (dpM_le h) (le_dpM ht)
/-- all([.. for .. in asked + asked[:n]]) -/
theorem tail_all {fl : String → String → Bool} {S : Sto} {p : Nat} {ds : List D} {n : Int} {tg : D → Env → Sto → QS → Prop} {el : Env → Sto → QE → Prop} {σ : Env} {K : QE} (hp : S p = some (.lst ds)) (hz : ds.length ≤ 400)
    (hs : ∀ d ∈ ds, ∀ S', Sub S S' → ∀ K' : QE, (∀ S3, Abs S' S3 → K' (.bl true) S3) → tg d σ S' fun σ1 S1 => el σ1 S1 K') (hK : ∀ S', Sub S S' → K (.bl true) S') :
    slM (.ref p) none (some n) S fun v S2 => binM .add (.ref p) v S2 fun d S1 => itemsM d S1 fun ds' => ∀ t, S1 t = none → loopC (fun S' => itemsM d S' fun x => x = ds') tg (fun _ S Q => Q true S) el t σ (fun S2 => bfM fl .all [.ref t] S2 K) ds' (S1.put t (.lst [])) := by
  rw [s_lst hp]
  intro q hq
  have nqp : p ≠ q := by walk_at "stne"
  have hc := cutL_len ds none (some n)
  rw [b_addl (ds := ds) (by walk_at "stk") Sto.put_same]
  refine ⟨by rw [sizeLine_eq]; omega, fun r hr => ?_⟩
  rw [i_lst Sto.put_same]
  intro t ht
  have nrt : r ≠ t := by walk_at "stne"
  have sb : ∀ o, Sub S (((((S.put q (.lst (cutL ds none (some n)))).put r (.lst (ds ++ cutL ds none (some n)))).put t o))) := fun o => ((Sub.put (by walk_at "stn")).trans (Sub.put (by walk_at "stn"))).trans (Sub.put (by walk_at "stn"))
  refine lc_map (fun _ y => y = .bl true) (by rw [List.length_append]; omega) (fun acc => by rw [i_lst (ds := ds ++ cutL ds none (some n)) (by walk_at "stk")]) (fun i d acc e K' hK' => ?_) (fun ys hl hy => ?_)
  · have hd : d ∈ ds := by
      rcases List.mem_append.mp (List.mem_of_getElem? e) with z | z
      · exact z
      · exact cutL_mem z
    exact hs d hd _ (sb _) K' fun S3 ab => hK' _ _ rfl ab
  · rw [f_all_true Sto.put_same hy]
    exact hK _ (sb _)
/-! ### names -/
def letL : Str := Str.ofString "abcdefghijklmnopqrstuvwxyz"
def keptD : List D := [.str (Str.ofString "if"), .str (Str.ofString "to"), .str (Str.ofString "lefts")]
def inK (x : Str) : Bool := keptD.any fun y => eqF y (.str x)
def ltr (i : Int) : Str := ⟨#[(atI letL.cps.toList i).getD 97]⟩
def rawN (st : Str) (a f : Int) (k : Int) : Str := cutS st none (some a) ++ ltr ((f + 7 * k) % 26) ++ cutS st (some a) none ++ Txt.mul (Str.ofString "q") (k % 2)
def nameOf (st : Str) (a f : Int) (k : Int) : Str := if inK (rawN st a f k) = true then rawN st a f k ++ Str.ofString "x" else rawN st a f k
structure Stem (st : Str) (a f : Int) : Prop where
  len : st.length ≤ 5
  a0 : 0 ≤ a
  a1 : a ≤ st.length
  f0 : 0 ≤ f
  f1 : f < 26
  az : ∀ c ∈ st.cps.toList, c ∈ letL.cps.toList
theorem letL_len : letL.cps.toList.length = 26 := by decide +kernel
theorem letL_len' : letL.length = 26 := by decide +kernel
theorem ltr_len (i : Int) : (ltr i).length = 1 := rfl
theorem join_mem {zs : List Str} {c : Nat} (h : c ∈ (Txt.join (Str.ofString "") zs).cps.toList) : ∃ z ∈ zs, c ∈ z.cps.toList := by
  have e := TL.tl_join (Str.ofString "") zs
  have e0 : TL.tl (Str.ofString "") = [] := by decide
  have h : c ∈ TL.tl (Txt.join (Str.ofString "") zs) := h
  rw [show Txt.join (Str.ofString "") zs = Str.join (Str.ofString "") zs from StrLaws.glued_eq_join _ _, e, e0] at h
  clear e e0
  have go : ∀ zs : List Str, c ∈ TL.joinL [] (zs.map TL.tl) → ∃ z ∈ zs, c ∈ z.cps.toList := by
    intro zs
    induction zs with
    | nil => intro h; cases h
    | cons z zs ih =>
      intro h
      cases zs with
      | nil => exact ⟨z, by simp, h⟩
      | cons y ys =>
        have h : c ∈ TL.tl z ++ ([] ++ TL.joinL [] ((y :: ys).map TL.tl)) := h
        rw [List.nil_append] at h
        rcases List.mem_append.mp h with h | h
        · exact ⟨z, by simp, h⟩
        · obtain ⟨w, h1, h2⟩ := ih h
          exact ⟨w, List.mem_cons_of_mem _ h1, h2⟩
  exact go zs h
theorem ltr_az (i : Int) (h0 : 0 ≤ i) (h1 : i < 26) : ∀ c ∈ (ltr i).cps.toList, c ∈ letL.cps.toList := by
  obtain ⟨d, h2, h3⟩ := atI_mem (xs := letL.cps.toList) h0 (by rw [letL_len]; exact h1)
  unfold ltr
  rw [h2]
  intro c hc
  have : c = d := by simpa using hc
  rw [this]; exact h3
theorem strs_allR {R : Str → Prop} : ∀ {ds : List D}, (∀ (i : Nat) y, ds[i]? = some y → ∃ x : Str, y = .str x ∧ R x) → ∃ ys : List Str, strsOf ds = some ys ∧ ys.length = ds.length ∧ ∀ y ∈ ys, R y
  | [], _ => ⟨[], rfl, rfl, by simp⟩
  | d :: ds, h => by
    obtain ⟨x, rfl, hx⟩ := h 0 d rfl
    obtain ⟨ys, h1, h2, h3⟩ := strs_allR (ds := ds) fun i y e => h (i + 1) y e
    refine ⟨x :: ys, ?_, by simp [h2], fun y hy => ?_⟩
    · show (strsOf ds).map (x :: ·) = _
      rw [h1]; rfl
    · rcases List.mem_cons.mp hy with z | z
      · rw [z]; exact hx
      · exact h3 y z
/-- a letter read -/
theorem x_ltr {S : Sto} {Q : QE} {i : Int} (h0 : 0 ≤ i) (h1 : i < 26) : ixM (.str letL) (.int i) S Q = Q (.str (ltr i)) S := by
  obtain ⟨c, hc⟩ := atI_str (z := letL.cps.toList) h0 (by rw [letL_len]; exact h1)
  rw [x_str (by rw [letL_len']; decide +kernel) hc]
  unfold ltr; rw [hc]; rfl
theorem len_cut2 {st : Str} {a : Int} (h0 : 0 ≤ a) : (cutS st none (some a)).length + (cutS st (some a) none).length ≤ st.length := by
  show (((st.cps.toList.drop _).take _).toArray).size + (((st.cps.toList.drop _).take _).toArray).size ≤ st.cps.size
  rw [List.size_toArray, List.size_toArray, List.length_take, List.length_drop, List.length_take, List.length_drop, Array.length_toList]
  obtain ⟨n, rfl⟩ := Int.eq_ofNat_of_zero_le h0
  show min (HT.sIx st.length st.length (some (n : Int)) - HT.sIx st.length 0 none) (st.cps.size - HT.sIx st.length 0 none) + min (HT.sIx st.length st.length none - HT.sIx st.length 0 (some (n : Int))) (st.cps.size - HT.sIx st.length 0 (some (n : Int))) ≤ _
  rw [HT.sIx_nat, HT.sIx_nat, HT.sIx_none, HT.sIx_none]
  show _ ≤ st.length
  have : st.cps.size = st.length := rfl
  omega
theorem nameOf_len {st : Str} {a f k : Int} (h : Stem st a f) (hk : 0 ≤ k) : 1 ≤ (nameOf st a f k).length ∧ (nameOf st a f k).length ≤ 8 := by
  have h1 := len_cut2 (st := st) h.a0
  have h2 := len_mul (x := Str.ofString "q") (n := k % 2) (L := 1) (N := 1) (by decide) (by omega)
  have h3 := h.len
  have h4 := ltr_len ((f + 7 * k) % 26)
  have h5 : (rawN st a f k).length = (cutS st none (some a)).length + (ltr ((f + 7 * k) % 26)).length + (cutS st (some a) none).length + (Txt.mul (Str.ofString "q") (k % 2)).length := by
    unfold rawN; rw [len_app, len_app, len_app]
  unfold nameOf
  split
  · rw [len_app, show (Str.ofString "x").length = 1 from by decide]; omega
  · omega
end Lr
namespace Lr
open PySem L2
/-! ### names in terms -/
def strsIn : List D → List Str
  | [] => []
  | .str x :: ds => x :: strsIn ds
  | _ :: ds => strsIn ds
def nmAdd (acc : List Str) (x : Str) : List Str := if x ∈ acc then acc else acc ++ [x]
def nmAll (acc : List Str) (ds : List D) : List Str := (strsIn ds).foldl nmAdd acc
def namesOf (ts : List D) : List Str := nmAll [] (preS ts)
theorem strsIn_append : ∀ xs ys : List D, strsIn (xs ++ ys) = strsIn xs ++ strsIn ys
  | [], _ => rfl
  | x :: xs, ys => by
    cases x <;> simp only [List.cons_append, strsIn, strsIn_append xs ys]
theorem nmAll_append (acc : List Str) (xs ys : List D) : nmAll acc (xs ++ ys) = nmAll (nmAll acc xs) ys := by
  unfold nmAll; rw [strsIn_append, List.foldl_append]
theorem nmAll_nil (acc : List Str) : nmAll acc [] = acc := rfl
theorem nmAll_str (acc : List Str) (x : Str) : nmAll acc [.str x] = nmAdd acc x := rfl
theorem nmAll_tup (acc : List Str) (ds : List D) : nmAll acc [.tup ds] = acc := rfl
theorem nmAdd_len (acc : List Str) (x : Str) : (nmAdd acc x).length ≤ acc.length + 1 := by
  unfold nmAdd; split
  · omega
  · rw [List.length_append]; exact Nat.le_refl _
theorem nmAll_len (acc : List Str) (ds : List D) : (nmAll acc ds).length ≤ acc.length + ds.length := by
  induction ds generalizing acc with
  | nil => exact Nat.le_refl _
  | cons d ds ih =>
    have h : nmAll acc (d :: ds) = nmAll (nmAll acc [d]) ds := nmAll_append acc [d] ds
    rw [h]
    have h1 := ih (nmAll acc [d])
    have h2 : (nmAll acc [d]).length ≤ acc.length + 1 := by
      cases d with
      | str x => rw [nmAll_str]; exact nmAdd_len acc x
      | _ => exact Nat.le_succ _
    rw [List.length_cons]; omega
/-- as a dict's entries -/
def trueAt (x : Str) : D × D := (.str x, .bl true)
theorem putD_true (acc : List Str) (x : Str) : putD (acc.map trueAt) (.str x) (.bl true) = (nmAdd acc x).map trueAt := by
  have h : ((acc.map trueAt).any fun kv => decide (kv.1 = D.str x)) = decide (x ∈ acc) := by
    induction acc with
    | nil => rfl
    | cons y ys ih =>
      show (decide (D.str y = D.str x) || (ys.map trueAt).any fun kv => decide (kv.1 = D.str x)) = _
      rw [ih]
      by_cases e : y = x
      · subst e; simp
      · have : ¬ x = y := fun z => e z.symm
        simp [e, this]
  unfold putD nmAdd
  rw [h]
  by_cases e : x ∈ acc
  · rw [if_pos (by simpa using e), if_pos e, List.map_map]
    apply List.map_congr_left
    intro y hy
    show (if D.str y = D.str x then ((D.str y, .bl true) : D × D) else (D.str y, .bl true)) = _
    rw [ite_self]; rfl
  · rw [if_neg (by simpa using e), if_neg e, List.map_append]; rfl
/-! ### names led -/
mutual
def sb (f : Str → D) : D → D
  | .str x => f x
  | .tup ds => .tup (sbT f ds)
  | d => d
def sbT (f : Str → D) : List D → List D
  | [] => []
  | w :: ts => w :: sbS f ts
def sbS (f : Str → D) : List D → List D
  | [] => []
  | t :: ts => sb f t :: sbS f ts
end
theorem sbS_map (f : Str → D) : ∀ ts : List D, sbS f ts = ts.map (sb f)
  | [] => rfl
  | t :: ts => by
    show sb f t :: sbS f ts = _
    rw [sbS_map]; rfl
theorem sb_str (f : Str → D) (x : Str) : sb f (.str x) = f x := rfl
theorem sb_tup (f : Str → D) (w : D) (ts : List D) : sb f (.tup (w :: ts)) = .tup (w :: ts.map (sb f)) := by
  show D.tup (w :: sbS f ts) = _
  rw [sbS_map]
theorem Tm.sb {W : Str → Nat → Prop} {V V' : Str → Prop} {m : Nat} {f : Str → D} (hf : ∀ x, V x → Tm W V' m (f x)) : ∀ {n : Nat} {d : D}, Tm W V n d → Tm W V' (m + n) (sb f d)
  | 0, d, h => by
    rcases h with ⟨x, h1, rfl⟩ | ⟨w, h1, rfl⟩
    · exact hf x h1
    · rw [sb_tup]
      have : Tm W V' 0 (.tup [.str w]) := .inr ⟨w, h1, rfl⟩
      exact this.le (Nat.zero_le _)
  | n + 1, d, h => by
    rcases h with ⟨x, h1, rfl⟩ | ⟨w, ts, h1, rfl, h3⟩
    · exact (hf x h1).le (by omega)
    · rw [sb_tup]
      refine .inr ⟨w, ts.map (Lr.sb f), by rw [List.length_map]; exact h1, rfl, fun t ht => ?_⟩
      obtain ⟨u, hu, rfl⟩ := List.mem_map.mp ht
      exact (h3 u hu).sb hf
theorem Tm.sb_id {W : Str → Nat → Prop} {V : Str → Prop} : ∀ {n : Nat} {d : D}, Tm W V n d → Lr.sb D.str d = d
  | 0, d, h => by
    rcases h with ⟨x, h1, rfl⟩ | ⟨w, h1, rfl⟩ <;> rfl
  | n + 1, d, h => by
    rcases h with ⟨x, h1, rfl⟩ | ⟨w, ts, h1, rfl, h3⟩
    · rfl
    · rw [sb_tup]
      have : ts.map (Lr.sb D.str) = ts := by
        rw [List.map_congr_left (g := id) fun t ht => (h3 t ht).sb_id, List.map_id]
      rw [this]
/-- a table's word for a name -/
def led (kvs : List (D × D)) (x : Str) : D := (lookD kvs (.str x)).getD (.str x)
end Lr
namespace Lr
open PySem L2
/-! ### tables -/
theorem lookD_mem : ∀ {kvs : List (D × D)} {x d : D}, lookD kvs x = some d → (x, d) ∈ kvs
  | [], _, _, h => by cases h
  | (k, v) :: r, x, d, h => by
    unfold lookD at h
    split at h
    · rename_i e; cases h; subst e; exact List.mem_cons_self ..
    · exact List.mem_cons_of_mem _ (lookD_mem h)
theorem putD_vals {R : D → Prop} {kvs : List (D × D)} {k v : D} (h : ∀ kv ∈ kvs, R kv.2) (hv : R v) : ∀ kv ∈ putD kvs k v, R kv.2 := by
  intro kv hkv
  unfold putD at hkv
  split at hkv
  · obtain ⟨q, hq, rfl⟩ := List.mem_map.mp hkv
    show R (if q.1 = k then (q.1, v) else q).2
    by_cases e : q.1 = k
    · rw [if_pos e]; exact hv
    · rw [if_neg e]; exact h q hq
  · rcases List.mem_append.mp hkv with hkv | hkv
    · exact h kv hkv
    · rw [List.mem_singleton.mp hkv]; exact hv
theorem mergeD_vals {R : D → Prop} : ∀ {kvs acc : List (D × D)}, (∀ kv ∈ acc, R kv.2) → (∀ kv ∈ kvs, R kv.2) → ∀ kv ∈ mergeD acc kvs, R kv.2
  | [], acc, h, _ => h
  | (k, v) :: r, acc, h, hk => by
    show ∀ kv ∈ mergeD (putD acc k v) r, R kv.2
    exact mergeD_vals (putD_vals h (hk (k, v) (List.mem_cons_self ..))) fun kv hkv => hk kv (List.mem_cons_of_mem _ hkv)
theorem led_R {R : D → Prop} {kvs : List (D × D)} (h : ∀ kv ∈ kvs, R kv.2) {x : Str} (hx : R (.str x)) : R (led kvs x) := by
  unfold led
  cases e : lookD kvs (.str x) with
  | none => exact hx
  | some d => exact h _ (lookD_mem e)
def prD (q : Str × D) : D := .tup [.str q.1, q.2]
def prK (q : Str × D) : D × D := (.str q.1, q.2)
theorem pairs_map : ∀ ps : List (Str × D), pairsD (ps.map prD) = some (ps.map prK)
  | [] => rfl
  | q :: ps => by
    show (pairsD (ps.map prD)).map ((.str q.1, q.2) :: ·) = _
    rw [pairs_map]; rfl
theorem pairs_key (ps : List (Str × D)) : ((ps.map prK).all fun kv => isKey false kv.1) = true := by
  rw [List.all_eq_true]
  intro kv h
  obtain ⟨q, _, rfl⟩ := List.mem_map.mp h; rfl
end Lr
namespace Lr
open PySem L2
theorem names_list {st : Str} {a f : Int} (h : Stem st a f) (n : Nat) : ∃ xs : List Str, ((List.range n).map fun i => D.str (nameOf st a f (i : Nat))) = xs.map .str ∧ xs.length = n ∧ ∀ x ∈ xs, x.length ≤ 8 :=
  ⟨(List.range n).map fun i => nameOf st a f (i : Nat), by rw [List.map_map]; rfl, by simp, fun x hx => by
    obtain ⟨j, _, rfl⟩ := List.mem_map.mp hx
    exact (nameOf_len h (by omega)).2⟩
theorem cut_drop {α : Type} {xs : List α} {i : Int} {n : Nat} (hi : i = (n : Int)) (h : n ≤ xs.length) : cutL xs (some i) none = xs.drop n := by
  subst hi
  unfold cutL
  rw [HT.sIx_nat, HT.sIx_none, Nat.min_eq_left h]
  exact List.take_of_length_le (by rw [List.length_drop]; exact Nat.le_refl _)
theorem cut_strs {ys : List Str} (lo hi : Option Int) {n m : Nat} (h1 : ys.length ≤ n) (h2 : ∀ x ∈ ys, x.length ≤ m) : ∃ zs : List Str, cutL (ys.map D.str) lo hi = zs.map .str ∧ zs.length ≤ n ∧ ∀ x ∈ zs, x.length ≤ m := by
  obtain ⟨zs, e1, e2⟩ := choose_list (f := D.str) (R := fun _ c => c ∈ ys) (ys := cutL (ys.map D.str) lo hi) fun i y e => by
    obtain ⟨x, hx, rfl⟩ := List.mem_map.mp (cutL_mem (List.mem_of_getElem? e))
    exact ⟨x, hx, rfl⟩
  have hc := cutL_len (ys.map D.str) lo hi
  rw [e1, List.length_map, List.length_map] at hc
  exact ⟨zs, e1, by omega, fun x hx => by
    obtain ⟨j, hj⟩ := List.mem_iff_getElem?.mp hx
    exact h2 x (e2 j x hj)⟩
end Lr
namespace Lr
open PySem L2
/-! ### books -/
def needD (q : Nat × List D) : D := .tup [.int (q.1 : Nat), .tup q.2]
def formD (q : Nat × Nat) : D := .tup [.int (q.1 : Nat), .int (q.2 : Nat)]
def atomD (q : Str × List D) : D := .tup [.str q.1, .tup q.2]
def ruleD (r : List D × List (Str × List D)) : D := .tup [.tup r.1, .tup (r.2.map atomD)]
structure Say where
  name : Str
  many : Nat
  byn : Nat
  rules : List (List D × List (Str × List D))
def sayD (s : Say) : D := .tup [.str s.name, .int (s.many : Nat), .int (s.byn : Nat), .tup (s.rules.map ruleD)]
/-- names that stand in rows of terms -/
def InN (hs : List D) (x : Str) : Prop := D.str x ∈ preS hs
structure HeadsOk (W : Str → Nat → Prop) (V : Str → Prop) (f : Nat × Nat) (hs : List D) : Prop where
  len : hs.length = f.1
  tm : ∀ h ∈ hs, Tm W V 3 h
  made : ∃ w ts, hs[f.2]? = some (.tup (.str w :: ts))
/-- a need of a saying of the form f for heads, by the head at b -/
structure NeedOk (W : Str → Nat → Prop) (f : Nat × Nat) (hs : List D) (b : Nat) (ts : List D) : Prop where
  len : ts.length = f.1
  tm : ∀ t ∈ ts, Tm W (InN hs) 3 t
  less : ∃ h t, hs[b]? = some h ∧ ts[f.2]? = some t ∧ t ∈ (pre h).tail
  sz : ∀ t ∈ ts, (pre t).length ≤ 2 ∨ ∃ h, hs[b]? = some h ∧ t ∈ (pre h).tail
def FormOk (f : Nat × Nat) : Prop := 1 ≤ f.1 ∧ f.1 ≤ 3 ∧ f.2 < f.1
theorem preS_sub {hs : List D} {h x : D} (hh : h ∈ hs) (hx : x ∈ pre h) : x ∈ preS hs := by
  induction hs with
  | nil => cases hh
  | cons u us ih =>
    show x ∈ pre u ++ preS us
    rcases List.mem_cons.mp hh with rfl | hh
    · exact List.mem_append_left _ hx
    · exact List.mem_append_right _ (ih hh)
theorem preS_sub' {hs : List D} {x : D} (hx : x ∈ preS hs) : ∃ h ∈ hs, x ∈ pre h := by
  induction hs with
  | nil => cases hx
  | cons u us ih =>
    rcases List.mem_append.mp (show x ∈ pre u ++ preS us from hx) with hx | hx
    · exact ⟨u, List.mem_cons_self .., hx⟩
    · obtain ⟨h, h1, h2⟩ := ih hx
      exact ⟨h, List.mem_cons_of_mem _ h1, h2⟩
theorem pre_self (d : D) : d ∈ pre d := by cases d <;> simp [pre]
mutual
theorem pre_trans : ∀ (d : D) {x y : D}, x ∈ pre d → y ∈ pre x → y ∈ pre d
  | .tup ds, x, y, hx, hy => by
    rcases List.mem_cons.mp (show x ∈ .tup ds :: preT ds from hx) with rfl | hx
    · exact hy
    · exact List.mem_cons_of_mem _ (preT_trans ds hx hy)
  | .non, x, y, hx, hy => by rw [List.mem_singleton.mp (show x ∈ [D.non] from hx)] at hy; exact hy
  | .bl b, x, y, hx, hy => by rw [List.mem_singleton.mp (show x ∈ [D.bl b] from hx)] at hy; exact hy
  | .int b, x, y, hx, hy => by rw [List.mem_singleton.mp (show x ∈ [D.int b] from hx)] at hy; exact hy
  | .str b, x, y, hx, hy => by rw [List.mem_singleton.mp (show x ∈ [D.str b] from hx)] at hy; exact hy
  | .kt b, x, y, hx, hy => by rw [List.mem_singleton.mp (show x ∈ [D.kt b] from hx)] at hy; exact hy
  | .key b, x, y, hx, hy => by rw [List.mem_singleton.mp (show x ∈ [D.key b] from hx)] at hy; exact hy
  | .ref b, x, y, hx, hy => by rw [List.mem_singleton.mp (show x ∈ [D.ref b] from hx)] at hy; exact hy
  | .ty b, x, y, hx, hy => by rw [List.mem_singleton.mp (show x ∈ [D.ty b] from hx)] at hy; exact hy
  | .cl b, x, y, hx, hy => by rw [List.mem_singleton.mp (show x ∈ [D.cl b] from hx)] at hy; exact hy
theorem preT_trans : ∀ (ds : List D) {x y : D}, x ∈ preT ds → y ∈ pre x → y ∈ preT ds
  | [], x, y, hx, hy => by cases hx
  | _ :: ts, x, y, hx, hy => preS_trans ts hx hy
theorem preS_trans : ∀ (ds : List D) {x y : D}, x ∈ preS ds → y ∈ pre x → y ∈ preS ds
  | [], x, y, hx, hy => by cases hx
  | t :: ts, x, y, hx, hy => by
    rcases List.mem_append.mp (show x ∈ pre t ++ preS ts from hx) with hx | hx
    · exact List.mem_append_left _ (pre_trans t hx hy)
    · exact List.mem_append_right _ (preS_trans ts hx hy)
end
/-- a term's names are its parts -/
theorem Tm.own {W : Str → Nat → Prop} {V : Str → Prop} : ∀ {n : Nat} {d : D}, Tm W V n d → Tm W (fun x => V x ∧ D.str x ∈ pre d) n d
  | 0, d, h => by
    rcases h with ⟨x, h1, rfl⟩ | ⟨w, h1, rfl⟩
    · exact .inl ⟨x, ⟨h1, by simp [pre]⟩, rfl⟩
    · exact .inr ⟨w, h1, rfl⟩
  | n + 1, d, h => by
    rcases h with ⟨x, h1, rfl⟩ | ⟨w, ts, h1, rfl, h3⟩
    · exact .inl ⟨x, ⟨h1, by simp [pre]⟩, rfl⟩
    · exact .inr ⟨w, ts, h1, rfl, fun t ht => (h3 t ht).own.mono (fun _ _ h => h) fun x hx => ⟨hx.1, List.mem_cons_of_mem _ (preS_sub ht hx.2)⟩⟩
end Lr
namespace Lr
open PySem L2
/-- the sayings of a book: forms fs, words ws -/
structure SaysOk (W : Str → Nat → Prop) (V : Str → Prop) (fs : List (Nat × Nat)) (ws : List Str) (ss : List Say) : Prop where
  len : ss.length ≤ fs.length
  say : ∀ (i : Nat) s, ss[i]? = some s → ws[i]? = some s.name ∧ fs[i]? = some (s.many, s.byn) ∧ s.rules.length ≤ 4 ∧ ∀ r ∈ s.rules, HeadsOk W V (s.many, s.byn) r.1 ∧ r.2.length ≤ 2 ∧ ∀ q ∈ r.2, ∃ (to : Nat) (f' : Nat × Nat), fs[to]? = some f' ∧ ws[to]? = some q.1 ∧ NeedOk W f' r.1 s.byn q.2
theorem SaysOk.snoc {W : Str → Nat → Prop} {V : Str → Prop} {fs : List (Nat × Nat)} {ws : List Str} {ss : List Say} (h : SaysOk W V fs ws ss) (s : Say) (h0 : ss.length < fs.length)
    (h1 : ws[ss.length]? = some s.name ∧ fs[ss.length]? = some (s.many, s.byn) ∧ s.rules.length ≤ 4 ∧ ∀ r ∈ s.rules, HeadsOk W V (s.many, s.byn) r.1 ∧ r.2.length ≤ 2 ∧ ∀ q ∈ r.2, ∃ (to : Nat) (f' : Nat × Nat), fs[to]? = some f' ∧ ws[to]? = some q.1 ∧ NeedOk W f' r.1 s.byn q.2) : SaysOk W V fs ws (ss ++ [s]) where
  len := by rw [List.length_append]; exact h0
  say := fun i t e => by
    rcases Nat.lt_trichotomy i ss.length with hi | hi | hi
    · rw [List.getElem?_append_left hi] at e; exact h.say i t e
    · subst hi
      rw [List.getElem?_append_right (Nat.le_refl _), Nat.sub_self] at e
      cases e; exact h1
    · rw [List.getElem?_eq_none (by rw [List.length_append]; simp; omega)] at e; cases e
end Lr
namespace Lr
open PySem L2
/-- the names of a book's maker -/
def baseN (st : Str) (a f : Int) (n : Nat) : List Str := (List.range n).map fun i => nameOf st a f (i : Nat)
def bothN (st : Str) (a f : Int) : Str := nameOf st a f 8 ++ nameOf st a f 6
def YsOk (st : Str) (a f : Int) (ys : List Str) : Prop := Stem st a f ∧ (ys = baseN st a f 20 ∨ (ys = (baseN st a f 20).set 7 (bothN st a f) ∧ (bothN st a f).length < 9 ∧ inK (bothN st a f) = false))
theorem baseN_len {st : Str} {a f : Int} {n : Nat} : (baseN st a f n).length = n := by unfold baseN; simp
theorem baseN_get {st : Str} {a f : Int} {n i : Nat} (h : i < n) : (baseN st a f n)[i]? = some (nameOf st a f (i : Nat)) := by
  unfold baseN; rw [List.getElem?_map, List.getElem?_range h]; rfl
theorem YsOk.len {st : Str} {a f : Int} {ys : List Str} (h : YsOk st a f ys) : ys.length = 20 := by
  rcases h.2 with rfl | ⟨rfl, _⟩
  · exact baseN_len
  · rw [List.length_set]; exact baseN_len
theorem YsOk.le8 {st : Str} {a f : Int} {ys : List Str} (h : YsOk st a f ys) : ∀ x ∈ ys, x.length ≤ 8 := by
  have hb : ∀ x ∈ baseN st a f 20, x.length ≤ 8 := fun x hx => by
    obtain ⟨i, _, rfl⟩ := List.mem_map.mp hx
    exact (nameOf_len h.1 (by omega)).2
  rcases h.2 with rfl | ⟨rfl, h2, _⟩
  · exact hb
  · intro x hx
    rcases List.mem_or_eq_of_mem_set hx with hx | rfl
    · exact hb x hx
    · omega
end Lr

set_option Elab.async false
set_option linter.all false
set_option maxRecDepth 100000
set_option maxHeartbeats 4000000
/-! part 16: equal terms, matching -/
namespace Lr
open PySem L2
mutual
def tmD : D → Bool
  | .str _ => true
  | .tup ds => tmDs ds
  | _ => false
def tmDs : List D → Bool
  | [] => true
  | d :: ds => tmD d && tmDs ds
end
theorem tmDs_iff : ∀ {ds : List D}, tmDs ds = true ↔ ∀ d ∈ ds, tmD d = true
  | [] => by simp [tmDs]
  | d :: ds => by rw [tmDs, Bool.and_eq_true, tmDs_iff]; simp
theorem Tm.tmD {W : Str → Nat → Prop} {V : Str → Prop} : ∀ {n : Nat} {d : D}, Tm W V n d → Lr.tmD d = true
  | 0, d, h => by
    rcases h with ⟨x, h1, rfl⟩ | ⟨w, h1, rfl⟩ <;> rfl
  | n + 1, d, h => by
    rcases h with ⟨x, h1, rfl⟩ | ⟨w, ts, h1, rfl, h3⟩
    · rfl
    · show (true && tmDs ts) = true
      rw [Bool.true_and, tmDs_iff]
      exact fun t ht => (h3 t ht).tmD
mutual
theorem tmD_plain : ∀ d : D, tmD d = true → plainD d = true
  | .str _, _ => rfl
  | .tup ds, h => by
    show plainDs ds = true
    exact tmDs_plain ds h
  | .non, h => by simp [tmD] at h
  | .bl _, h => by simp [tmD] at h
  | .int _, h => by simp [tmD] at h
  | .kt _, h => by simp [tmD] at h
  | .key _, h => by simp [tmD] at h
  | .ref _, h => by simp [tmD] at h
  | .ty _, h => by simp [tmD] at h
  | .cl _, h => by simp [tmD] at h
theorem tmDs_plain : ∀ ds : List D, tmDs ds = true → plainDs ds = true
  | [], _ => rfl
  | d :: ds, h => by
    rw [tmDs, Bool.and_eq_true] at h
    rw [plainDs, tmD_plain d h.1, tmDs_plain ds h.2]; rfl
end
mutual
theorem eqv_tm : ∀ d e : D, tmD d = true → tmD e = true → PyData.eqv d.py e.py = decide (d = e)
  | .str x, .str y, _, _ => by
    show (x == y) = _
    by_cases e : x = y
    · subst e; simp
    · simp [e]
  | .str x, .tup es, _, _ => rfl
  | .tup ds, .str y, _, _ => rfl
  | .tup ds, .tup es, h, h' => by
    show PyData.eqvAll (D.pys ds) (D.pys es) = _
    rw [eqvs_tm ds es h h']
    simp
  | .non, _, h, _ => by simp [tmD] at h
  | .bl _, _, h, _ => by simp [tmD] at h
  | .int _, _, h, _ => by simp [tmD] at h
  | .kt _, _, h, _ => by simp [tmD] at h
  | .key _, _, h, _ => by simp [tmD] at h
  | .ref _, _, h, _ => by simp [tmD] at h
  | .ty _, _, h, _ => by simp [tmD] at h
  | .cl _, _, h, _ => by simp [tmD] at h
  | .str _, .non, _, h => by simp [tmD] at h
  | .str _, .bl _, _, h => by simp [tmD] at h
  | .str _, .int _, _, h => by simp [tmD] at h
  | .str _, .kt _, _, h => by simp [tmD] at h
  | .str _, .key _, _, h => by simp [tmD] at h
  | .str _, .ref _, _, h => by simp [tmD] at h
  | .str _, .ty _, _, h => by simp [tmD] at h
  | .str _, .cl _, _, h => by simp [tmD] at h
  | .tup _, .non, _, h => by simp [tmD] at h
  | .tup _, .bl _, _, h => by simp [tmD] at h
  | .tup _, .int _, _, h => by simp [tmD] at h
  | .tup _, .kt _, _, h => by simp [tmD] at h
  | .tup _, .key _, _, h => by simp [tmD] at h
  | .tup _, .ref _, _, h => by simp [tmD] at h
  | .tup _, .ty _, _, h => by simp [tmD] at h
  | .tup _, .cl _, _, h => by simp [tmD] at h
theorem eqvs_tm : ∀ ds es : List D, tmDs ds = true → tmDs es = true → PyData.eqvAll (D.pys ds) (D.pys es) = decide (ds = es)
  | [], [], _, _ => rfl
  | [], e :: es, _, _ => rfl
  | d :: ds, [], _, _ => rfl
  | d :: ds, e :: es, h, h' => by
    rw [tmDs, Bool.and_eq_true] at h h'
    show (PyData.eqv d.py e.py && PyData.eqvAll (D.pys ds) (D.pys es)) = _
    rw [eqv_tm d e h.1 h'.1, eqvs_tm ds es h.2 h'.2]
    by_cases a : d = e <;> by_cases b : ds = es <;> simp [a, b]
end
theorem depths_le {m : Nat} : ∀ {ds : List D}, (∀ d ∈ ds, d.py.depth ≤ m) → PyData.depthAll (D.pys ds) ≤ m
  | [], _ => Nat.zero_le _
  | d :: ds, h => Nat.max_le.mpr ⟨h d (List.mem_cons_self ..), depths_le fun x hx => h x (List.mem_cons_of_mem _ hx)⟩
theorem Tm.depth {W : Str → Nat → Prop} {V : Str → Prop} : ∀ {n : Nat} {d : D}, Tm W V n d → d.py.depth ≤ n + 2
  | 0, d, h => by
    rcases h with ⟨x, h1, rfl⟩ | ⟨w, h1, rfl⟩
    · exact (by decide : 0 ≤ 2)
    · show PyData.depthAll (D.pys [D.str w]) + 1 ≤ 2
      have := depths_le (m := 1) (ds := [D.str w]) fun d hd => by rw [List.mem_singleton.mp hd]; exact (by decide : 0 ≤ 1)
      omega
  | n + 1, d, h => by
    rcases h with ⟨x, h1, rfl⟩ | ⟨w, ts, h1, rfl, h3⟩
    · exact Nat.zero_le _
    · show PyData.depthAll (D.pys (D.str w :: ts)) + 1 ≤ n + 1 + 2
      have := depths_le (m := n + 2) (ds := D.str w :: ts) fun d hd => by
        rcases List.mem_cons.mp hd with rfl | hd
        · exact Nat.zero_le _
        · exact (h3 d hd).depth
      omega
theorem c_eqt {d e : D} {S : Sto} {B : Bool → Prop} (h : tmD d = true) (h' : tmD e = true) (hd : d.py.depth ≤ 64) : cmpM .eq d e S B = B (decide (d = e)) := by
  have gen : (match pyv S d, pyv S e with
    | some d, some e => (d.depth ≤ 64 ∨ e.depth ≤ 64) ∧ B (PyData.eqv d e)
    | _, _ => eqM.eqDM d e S B) = B (decide (d = e)) := by
    rw [pyv_plain (tmD_plain d h), pyv_plain (tmD_plain e h')]
    show ((_ ∨ _) ∧ B (PyData.eqv d.py e.py)) = _
    rw [eqv_tm d e h h']
    exact propext ⟨fun h => h.2, fun h => ⟨.inl hd, h⟩⟩
  cases d with
  | str x =>
    cases e with
    | str y => show B (decide (x = y)) = _; congr 1; simp
    | tup es => exact gen
    | _ => simp [tmD] at h'
  | tup ds =>
    cases e with
    | str y => exact gen
    | tup es => exact gen
    | _ => simp [tmD] at h'
  | _ => simp [tmD] at h
theorem c_net {d e : D} {S : Sto} {B : Bool → Prop} (h : tmD d = true) (h' : tmD e = true) (hd : d.py.depth ≤ 64) : cmpM .ne d e S B = B (!decide (d = e)) := c_eqt (B := fun b => B (!b)) h h' hd
/-! ### matching -/
mutual
/-- what names must be for a term to be another -/
def mc : D → D → Option (List (Str × D))
  | .str x, d => some [(x, d)]
  | .tup ds, .tup es => mcT ds es
  | _, _ => none
def mcT : List D → List D → Option (List (Str × D))
  | w :: ts, w' :: us => if w = w' then mcS ts us else none
  | _, _ => none
def mcS : List D → List D → Option (List (Str × D))
  | [], [] => some []
  | t :: ts, u :: us => match mc t u, mcS ts us with
    | some a, some b => some (a ++ b)
    | _, _ => none
  | _, _ => none
end
/-- no name twice otherwise -/
def Cons (cs : List (Str × D)) : Prop := ∀ x d e, (x, d) ∈ cs → (x, e) ∈ cs → d = e
instance {cs : List (Str × D)} : Decidable (Cons cs) := decidable_of_iff (∀ p ∈ cs, ∀ q ∈ cs, p.1 = q.1 → p.2 = q.2) ⟨fun h x d e h1 h2 => h _ h1 _ h2 rfl, fun h p hp q hq e => h p.1 p.2 q.2 hp (by rw [e]; exact hq)⟩
def lkS (cs : List (Str × D)) (x : Str) : D := ((cs.find? fun p => decide (p.1 = x)).map (·.2)).getD .non
def mcP : List (D × D) → Option (List (Str × D))
  | [] => some []
  | p :: r => match mc p.1 p.2, mcP r with
    | some a, some b => some (a ++ b)
    | _, _ => none
theorem mcS_len : ∀ {ts us : List D} {cs : List (Str × D)}, mcS ts us = some cs → ts.length = us.length
  | [], [], _, _ => rfl
  | [], u :: us, cs, h => by simp [mcS] at h
  | t :: ts, [], cs, h => by simp [mcS] at h
  | t :: ts, u :: us, cs, h => by
    unfold mcS at h
    split at h
    · rename_i a b h1 h2
      rw [List.length_cons, List.length_cons, mcS_len h2]
    · cases h
theorem mcS_zip : ∀ {ts us : List D}, ts.length = us.length → mcS ts us = mcP (ts.zip us)
  | [], [], _ => rfl
  | [], u :: us, h => by simp at h
  | t :: ts, [], h => by simp at h
  | t :: ts, u :: us, h => by
    show (match mc t u, mcS ts us with | some a, some b => some (a ++ b) | _, _ => none) = (match mc t u, mcP (ts.zip us) with | some a, some b => some (a ++ b) | _, _ => none)
    rw [mcS_zip (by simpa using h)]
def oapp (a b : Option (List (Str × D))) : Option (List (Str × D)) := match a, b with
  | some x, some y => some (x ++ y)
  | _, _ => none
theorem oapp_nil (a : Option (List (Str × D))) : oapp (some []) a = a := by cases a <;> rfl
theorem oapp_none (a : Option (List (Str × D))) : oapp a none = none := by cases a <;> rfl
theorem oapp_assoc (a b c : Option (List (Str × D))) : oapp (oapp a b) c = oapp a (oapp b c) := by
  cases a <;> cases b <;> cases c <;> simp [oapp]
theorem mcP_cons (p : D × D) (r : List (D × D)) : mcP (p :: r) = oapp (mc p.1 p.2) (mcP r) := rfl
theorem mcP_append : ∀ a b : List (D × D), mcP (a ++ b) = oapp (mcP a) (mcP b)
  | [], b => (oapp_nil _).symm
  | p :: a, b => by
    rw [List.cons_append, mcP_cons, mcP_append a b, mcP_cons, oapp_assoc]
theorem mcP_one (p : D × D) : mcP [p] = mc p.1 p.2 := by
  rw [mcP_cons]
  show oapp (mc p.1 p.2) (some []) = _
  cases mc p.1 p.2 <;> simp [oapp]
theorem mc_tup (w w' : D) (ts us : List D) (h : ts.length = us.length) : mc (.tup (w :: ts)) (.tup (w' :: us)) = if w = w' then mcP (ts.zip us) else none := by
  show (if w = w' then mcS ts us else none) = _
  rw [mcS_zip h]
theorem mc_tupN (w w' : D) (ts us : List D) (h : ts.length ≠ us.length) : mc (.tup (w :: ts)) (.tup (w' :: us)) = none := by
  show (if w = w' then mcS ts us else none) = none
  split
  · cases e : mcS ts us with
    | none => rfl
    | some cs => exact absurd (mcS_len e) h
  · rfl
mutual
theorem mc_names : ∀ {t u : D} {cs : List (Str × D)}, mc t u = some cs → cs.map (·.1) = strsIn (pre t)
  | .str x, u, cs, h => by
    have h : some [(x, u)] = some cs := by cases u <;> exact h
    cases h; rfl
  | .tup ds, .tup es, cs, h => mcT_names (show mcT ds es = some cs from h)
  | .tup ds, .str _, cs, h => by simp [mc] at h
  | .tup ds, .non, cs, h => by simp [mc] at h
  | .tup ds, .bl _, cs, h => by simp [mc] at h
  | .tup ds, .int _, cs, h => by simp [mc] at h
  | .tup ds, .kt _, cs, h => by simp [mc] at h
  | .tup ds, .key _, cs, h => by simp [mc] at h
  | .tup ds, .ref _, cs, h => by simp [mc] at h
  | .tup ds, .ty _, cs, h => by simp [mc] at h
  | .tup ds, .cl _, cs, h => by simp [mc] at h
  | .non, u, cs, h => by simp [mc] at h
  | .bl _, u, cs, h => by simp [mc] at h
  | .int _, u, cs, h => by simp [mc] at h
  | .kt _, u, cs, h => by simp [mc] at h
  | .key _, u, cs, h => by simp [mc] at h
  | .ref _, u, cs, h => by simp [mc] at h
  | .ty _, u, cs, h => by simp [mc] at h
  | .cl _, u, cs, h => by simp [mc] at h
theorem mcT_names : ∀ {ds es : List D} {cs : List (Str × D)}, mcT ds es = some cs → cs.map (·.1) = strsIn (preT ds)
  | [], _, cs, h => by simp [mcT] at h
  | w :: ts, [], cs, h => by simp [mcT] at h
  | w :: ts, w' :: us, cs, h => by
    have h : (if w = w' then mcS ts us else none) = some cs := h
    split at h
    · exact mcS_names h
    · cases h
theorem mcS_names : ∀ {ts us : List D} {cs : List (Str × D)}, mcS ts us = some cs → cs.map (·.1) = strsIn (preS ts)
  | [], [], cs, h => by cases h; rfl
  | [], u :: us, cs, h => by simp [mcS] at h
  | t :: ts, [], cs, h => by simp [mcS] at h
  | t :: ts, u :: us, cs, h => by
    unfold mcS at h
    split at h
    · rename_i a b h1 h2
      cases h
      rw [List.map_append, mc_names h1, mcS_names h2]
      exact (strsIn_append _ _).symm
    · cases h
end
/-- the pairs under which ts are us -/
def matchR (ts us : List D) : Option (List (Str × D)) :=
  if ts.length = us.length then
    match mcS ts us with
    | some cs => if Cons cs then some ((namesOf ts).map fun x => (x, lkS cs x)) else none
    | none => none
  else none
theorem lkS_cons (x : Str) (d : D) (cs : List (Str × D)) (y : Str) : lkS ((x, d) :: cs) y = if x = y then d else lkS cs y := by
  unfold lkS
  by_cases e : x = y
  · rw [if_pos e, List.find?_cons_of_pos (by simpa using e)]; rfl
  · rw [if_neg e, List.find?_cons_of_neg (by simpa using e)]
/-- a table that tells what cs tells -/
structure Tab (kvs : List (D × D)) (cs : List (Str × D)) : Prop where
  look : ∀ x, lookD kvs (.str x) = (cs.find? fun p => decide (p.1 = x)).map (·.2)
  len : kvs.length ≤ cs.length
theorem lookD_append : ∀ (kvs : List (D × D)) (k v x : D), lookD (kvs ++ [(k, v)]) x = match lookD kvs x with | some d => some d | none => if k = x then some v else none
  | [], k, v, x => by
    show (if k = x then some v else none) = _
    rfl
  | (k', v') :: r, k, v, x => by
    show (if k' = x then some v' else lookD (r ++ [(k, v)]) x) = match (if k' = x then some v' else lookD r x) with | some d => some d | none => if k = x then some v else none
    by_cases e : k' = x
    · rw [if_pos e, if_pos e]
    · rw [if_neg e, if_neg e, lookD_append r]
theorem lookD_any : ∀ {kvs : List (D × D)} {x : D}, lookD kvs x = none → (kvs.any fun kv => decide (kv.1 = x)) = false
  | [], _, _ => rfl
  | (k, v) :: r, x, h => by
    unfold lookD at h
    split at h
    · cases h
    · rename_i e
      rw [List.any_cons, lookD_any h, Bool.or_false]
      simpa using e
theorem putD_new {kvs : List (D × D)} {k v : D} (h : lookD kvs k = none) : putD kvs k v = kvs ++ [(k, v)] := by
  unfold putD
  rw [if_neg (by rw [lookD_any h]; decide)]
end Lr
namespace Lr
open PySem L2
def nub (cs : List (Str × D)) : List Str := (cs.map (·.1)).foldl nmAdd []
theorem nub_snoc (cs : List (Str × D)) (x : Str) (u : D) : nub (cs ++ [(x, u)]) = nmAdd (nub cs) x := by
  unfold nub; rw [List.map_append, List.foldl_append]; rfl
theorem mem_nmAdd {acc : List Str} {x y : Str} : y ∈ nmAdd acc x ↔ y ∈ acc ∨ y = x := by
  unfold nmAdd
  by_cases h : x ∈ acc
  · rw [if_pos h]
    exact ⟨.inl, fun z => z.elim id fun e => by rw [e]; exact h⟩
  · rw [if_neg h]; simp
theorem mem_foldl_nm : ∀ {xs acc : List Str} {y : Str}, y ∈ xs.foldl nmAdd acc ↔ y ∈ acc ∨ y ∈ xs
  | [], acc, y => by simp
  | x :: xs, acc, y => by
    show y ∈ xs.foldl nmAdd (nmAdd acc x) ↔ _
    rw [mem_foldl_nm, mem_nmAdd]; simp [or_assoc]
theorem mem_nub {cs : List (Str × D)} {y : Str} : y ∈ nub cs ↔ ∃ d, (y, d) ∈ cs := by
  unfold nub; rw [mem_foldl_nm]; simp
theorem namesOf_nub {ts us : List D} {cs : List (Str × D)} (h : mcS ts us = some cs) : namesOf ts = nub cs := by
  unfold namesOf nmAll nub; rw [mcS_names h]
/-- the first of x -/
theorem lkS_mem : ∀ {cs : List (Str × D)} {x : Str}, (∃ d, (x, d) ∈ cs) → (x, lkS cs x) ∈ cs
  | [], x, ⟨d, h⟩ => by cases h
  | (y, e) :: cs, x, ⟨d, h⟩ => by
    rw [lkS_cons]
    by_cases z : y = x
    · rw [if_pos z, z]; exact List.mem_cons_self ..
    · rw [if_neg z]
      refine List.mem_cons_of_mem _ (lkS_mem ?_)
      rcases List.mem_cons.mp h with h | h
      · cases h; exact absurd rfl z
      · exact ⟨d, h⟩
theorem lkS_app {cs cs' : List (Str × D)} {x : Str} (h : ∃ d, (x, d) ∈ cs) : lkS (cs ++ cs') x = lkS cs x := by
  induction cs with
  | nil => obtain ⟨d, h⟩ := h; cases h
  | cons p cs ih =>
    rw [List.cons_append, show p = (p.1, p.2) from rfl, lkS_cons, lkS_cons]
    by_cases z : p.1 = x
    · rw [if_pos z, if_pos z]
    · rw [if_neg z, if_neg z]
      refine ih ?_
      obtain ⟨d, h⟩ := h
      rcases List.mem_cons.mp h with h | h
      · rw [← h] at z; exact absurd rfl z
      · exact ⟨d, h⟩
theorem lkS_new {cs : List (Str × D)} {x : Str} {u : D} (h : ∀ d, (x, d) ∉ cs) : lkS (cs ++ [(x, u)]) x = u := by
  induction cs with
  | nil => show lkS [(x, u)] x = u; rw [lkS_cons, if_pos rfl]
  | cons p cs ih =>
    rw [List.cons_append, show p = (p.1, p.2) from rfl, lkS_cons]
    have : p.1 ≠ x := fun z => h p.2 (by rw [← z]; exact List.mem_cons_self ..)
    rw [if_neg this]
    exact ih fun d hd => h d (List.mem_cons_of_mem _ hd)
/-- the table as the law keeps it -/
def tabOf (cs : List (Str × D)) : List (D × D) := (nub cs).map fun x => (.str x, lkS cs x)
theorem lookD_map {f : Str → D} {y : Str} : ∀ xs : List Str, lookD (xs.map fun x => (D.str x, f x)) (.str y) = if y ∈ xs then some (f y) else none
  | [] => by simp [lookD]
  | x :: xs => by
    show (if D.str x = D.str y then some (f x) else lookD (xs.map fun x => (D.str x, f x)) (.str y)) = _
    by_cases z : x = y
    · subst z; simp
    · have z' : ¬ y = x := fun q => z q.symm
      rw [if_neg (fun q => z (by cases q; rfl)), lookD_map xs]
      simp [z']
theorem look_tabOf (cs : List (Str × D)) (y : Str) : lookD (tabOf cs) (.str y) = if y ∈ nub cs then some (lkS cs y) else none := lookD_map _
theorem tabOf_old {cs : List (Str × D)} {x : Str} {u : D} (h : x ∈ nub cs) : tabOf (cs ++ [(x, u)]) = tabOf cs := by
  unfold tabOf
  have : nub (cs ++ [(x, u)]) = nub cs := by rw [nub_snoc]; exact if_pos h
  rw [this]
  refine List.map_congr_left fun y hy => ?_
  rw [lkS_app (mem_nub.mp hy)]
theorem tabOf_new {cs : List (Str × D)} {x : Str} {u : D} (h : x ∉ nub cs) : tabOf (cs ++ [(x, u)]) = tabOf cs ++ [(.str x, u)] := by
  unfold tabOf
  have : nub (cs ++ [(x, u)]) = nub cs ++ [x] := by rw [nub_snoc]; exact if_neg h
  rw [this, List.map_append]
  congr 1
  · refine List.map_congr_left fun y hy => ?_
    rw [lkS_app (mem_nub.mp hy)]
  · show [(D.str x, lkS (cs ++ [(x, u)]) x)] = _
    rw [lkS_new fun d hd => h (mem_nub.mpr ⟨d, hd⟩)]
theorem tabOf_len (cs : List (Str × D)) : (tabOf cs).length ≤ cs.length := by
  unfold tabOf nub
  rw [List.length_map]
  have : ∀ (xs acc : List Str), (xs.foldl nmAdd acc).length ≤ acc.length + xs.length := fun xs => by
    induction xs with
    | nil => intro acc; exact Nat.le_refl _
    | cons x xs ih =>
      intro acc
      have h1 := ih (nmAdd acc x)
      have h2 := nmAdd_len acc x
      show (xs.foldl nmAdd (nmAdd acc x)).length ≤ _
      rw [List.length_cons]; omega
  have := this (cs.map (·.1)) []
  rw [List.length_map] at this
  simpa using this
theorem Cons.snoc {cs : List (Str × D)} {x : Str} {u : D} (h : Cons cs) (hx : ∀ d, (x, d) ∈ cs → d = u) : Cons (cs ++ [(x, u)]) := fun y d e h1 h2 => by
  rcases List.mem_append.mp h1 with h1 | h1 <;> rcases List.mem_append.mp h2 with h2 | h2
  · exact h y d e h1 h2
  · rw [List.mem_singleton] at h2; cases h2; exact hx d h1
  · rw [List.mem_singleton] at h1; cases h1; exact (hx e h2).symm
  · rw [List.mem_singleton] at h1 h2; cases h1; cases h2; rfl
end Lr
namespace Lr
open PySem L2
theorem lz_tup {ds es : List D} {S : Sto} {Q : QE} : lzpM (.tup ds) (.tup es) S Q = newL (zipL ds es) S Q := rfl
end Lr

set_option Elab.async false
set_option linter.all false
set_option maxRecDepth 100000
set_option maxHeartbeats 4000000
/-! part 17: unlike names -/
namespace Lr
open PySem L2
theorem str_ext {x y : Str} (h : x.cps.toList = y.cps.toList) : x = y := by
  cases x; cases y
  congr 1
  exact Array.toList_inj.mp h
theorem app_list (x y : Str) : (x ++ y).cps.toList = x.cps.toList ++ y.cps.toList := by
  show (x.cps ++ y.cps).toList = _
  rw [Array.toList_append]
def ltrN (i : Int) : Nat := 97 + i.toNat
theorem letL_get : ∀ i : Fin 26, letL.cps.toList[i.val]? = some (97 + i.val) := by decide +kernel
theorem ltr_list {i : Int} (h0 : 0 ≤ i) (h1 : i < 26) : (ltr i).cps.toList = [ltrN i] := by
  obtain ⟨n, rfl⟩ := Int.eq_ofNat_of_zero_le h0
  have h2 : n < 26 := by omega
  have e : atI letL.cps.toList (n : Int) = some (97 + n) := by
    rw [atI_n (letL_get ⟨n, h2⟩)]
  unfold ltr
  rw [e]; rfl
theorem q_list {k : Int} (h : 0 ≤ k) : (Txt.mul (Str.ofString "q") (k % 2)).cps.toList = if k % 2 = 1 then [113] else [] := by
  rcases (by omega : k % 2 = 0 ∨ k % 2 = 1) with e | e <;> rw [e]
  · decide +kernel
  · decide +kernel
def cutA (st : Str) (a : Int) : List Nat := (cutS st none (some a)).cps.toList
def cutB (st : Str) (a : Int) : List Nat := (cutS st (some a) none).cps.toList
theorem cutAB {st : Str} {a : Int} (h0 : 0 ≤ a) (h1 : a ≤ st.length) : cutA st a ++ cutB st a = st.cps.toList := by
  obtain ⟨n, rfl⟩ := Int.eq_ofNat_of_zero_le h0
  have hs : st.length = st.cps.toList.length := rfl
  unfold cutA cutB
  show ((st.cps.toList.drop (HT.sIx st.length 0 none)).take (HT.sIx st.length st.length (some (n : Int)) - HT.sIx st.length 0 none)).toArray.toList ++ ((st.cps.toList.drop (HT.sIx st.length 0 (some (n : Int)))).take (HT.sIx st.length st.length none - HT.sIx st.length 0 (some (n : Int)))).toArray.toList = _
  rw [HT.sIx_nat, HT.sIx_nat, HT.sIx_none, HT.sIx_none, Nat.min_eq_left (by omega)]
  simp only [Nat.sub_zero, List.drop_zero]
  rw [List.take_of_length_le (l := st.cps.toList.drop n) (by rw [List.length_drop]; omega), List.take_append_drop]
theorem raw_list {st : Str} {a f k : Int} (hk : 0 ≤ k) : (rawN st a f k).cps.toList = cutA st a ++ [ltrN ((f + 7 * k) % 26)] ++ cutB st a ++ (if k % 2 = 1 then [113] else []) := by
  unfold rawN
  rw [app_list, app_list, app_list, ltr_list (by omega) (by omega), q_list hk]; rfl
theorem inK_iff {x : Str} : inK x = true ↔ x.cps.toList = [105, 102] ∨ x.cps.toList = [116, 111] ∨ x.cps.toList = [108, 101, 102, 116, 115] := by
  have e1 : (Str.ofString "if").cps.toList = [105, 102] := by decide +kernel
  have e2 : (Str.ofString "to").cps.toList = [116, 111] := by decide +kernel
  have e3 : (Str.ofString "lefts").cps.toList = [108, 101, 102, 116, 115] := by decide +kernel
  unfold inK keptD
  simp only [List.any_cons, List.any_nil, eqF, Bool.or_false, Bool.or_eq_true, beq_iff_eq]
  rw [← e1, ← e2, ← e3]
  constructor
  · rintro (h | h | h) <;> rw [h] <;> simp
  · rintro (h | h | h)
    · exact .inl (str_ext h).symm
    · exact .inr (.inl (str_ext h).symm)
    · exact .inr (.inr (str_ext h).symm)
/-- a name's letters: its odd ones end by q and are never kept words -/
theorem odd_inK {st : Str} {a f k : Int} (hk : 0 ≤ k) (h1 : k % 2 = 1) : inK (rawN st a f k) = false := by
  cases e : inK (rawN st a f k) with
  | false => rfl
  | true =>
    have e1 := raw_list (st := st) (a := a) (f := f) hk
    rw [if_pos h1] at e1
    have l : (rawN st a f k).cps.toList.getLast? = some 113 := by rw [e1, List.getLast?_append]; rfl
    rcases inK_iff.mp e with h | h | h <;> rw [h] at l <;> simp at l
def nmList (st : Str) (a f k : Int) : List Nat := cutA st a ++ [ltrN ((f + 7 * k) % 26)] ++ cutB st a ++ (if k % 2 = 1 then [113] else if inK (rawN st a f k) = true then [120] else [])
theorem name_list {st : Str} {a f k : Int} (hk : 0 ≤ k) : (nameOf st a f k).cps.toList = nmList st a f k := by
  have e := raw_list (st := st) (a := a) (f := f) hk
  unfold nameOf nmList
  by_cases h1 : k % 2 = 1
  · rw [if_neg (by rw [odd_inK hk h1]; decide), e, if_pos h1, if_pos h1]
  · rw [if_neg h1] at e
    rw [if_neg h1]
    by_cases h2 : inK (rawN st a f k) = true
    · rw [if_pos h2, if_pos h2, app_list, e, List.append_nil]
      congr 1
    · rw [if_neg h2, if_neg h2, e]
theorem ltrN_inj {i j : Int} (h0 : 0 ≤ i) (h1 : 0 ≤ j) (h : ltrN i = ltrN j) : i = j := by
  unfold ltrN at h; omega
theorem name_inj {st : Str} {a f i j : Int} (hi : 0 ≤ i) (hi2 : i < 26) (hj : 0 ≤ j) (hj2 : j < 26) (h : nameOf st a f i = nameOf st a f j) : i = j := by
  have e : nmList st a f i = nmList st a f j := by rw [← name_list hi, ← name_list hj, h]
  have key : ∀ s t : List Nat, cutA st a ++ [ltrN ((f + 7 * i) % 26)] ++ cutB st a ++ s = cutA st a ++ [ltrN ((f + 7 * j) % 26)] ++ cutB st a ++ t → i = j ∧ s = t := fun s t e => by
    simp only [List.append_assoc] at e
    have e := List.cons.inj (List.append_cancel_left e)
    have e1 := ltrN_inj (by omega) (by omega) e.1
    exact ⟨by omega, (List.append_cancel_left e.2)⟩
  exact (key _ _ e).1
theorem both_ne {st : Str} {a f i : Int} (ha : 0 ≤ a) (ha2 : a ≤ st.length) (hi : 0 ≤ i) (hi2 : i < 26) : bothN st a f ≠ nameOf st a f i := fun h => by
  have e : nmList st a f 8 ++ nmList st a f 6 = nmList st a f i := by
    rw [← name_list (by decide), ← name_list (by decide), ← name_list hi, ← app_list, ← h]; rfl
  have hl := congrArg List.length e
  have hab := congrArg List.length (cutAB (st := st) ha ha2)
  unfold nmList at hl
  simp only [List.length_append, List.length_cons, List.length_nil] at hl hab
  have e8 : ¬ (8 : Int) % 2 = 1 := by decide
  have e6 : ¬ (6 : Int) % 2 = 1 := by decide
  rw [if_neg e8, if_neg e6] at hl
  have tl : (if i % 2 = 1 then [113] else if inK (rawN st a f i) = true then [120] else [] : List Nat).length ≤ 1 := by
    split
    · exact Nat.le_refl _
    · split <;> simp
  have h0 : (cutA st a).length + (cutB st a).length = 0 := by omega
  have hA : cutA st a = [] := List.eq_nil_of_length_eq_zero (by omega)
  have hB : cutB st a = [] := List.eq_nil_of_length_eq_zero (by omega)
  have k1 : ∀ k : Int, 0 ≤ k → ¬ k % 2 = 1 → inK (rawN st a f k) = false := fun k hk h1 => by
    cases e : inK (rawN st a f k) with
    | false => rfl
    | true =>
      have e1 := raw_list (st := st) (a := a) (f := f) hk
      rw [if_neg h1, hA, hB] at e1
      rcases inK_iff.mp e with h | h | h <;> rw [h] at e1 <;> simp at e1
  unfold nmList at e
  rw [hA, hB, if_neg e8, if_neg e6, k1 8 (by decide) e8, k1 6 (by decide) e6] at e
  by_cases h1 : i % 2 = 1
  · rw [if_pos h1] at e
    simp at e
    have := ltrN_inj (by omega) (by omega) e.1
    omega
  · rw [if_neg h1, k1 i hi h1] at e
    simp at e
theorem cutL_any {α : Type} {xs : List α} {lo hi : Option Int} {R : α → Prop} (h : ∀ x ∈ xs, R x) : ∀ x ∈ cutL xs lo hi, R x := fun x hx => h x (cutL_mem hx)
theorem cutL_map {α β : Type} (g : α → β) (xs : List α) (lo hi : Option Int) : cutL (xs.map g) lo hi = (cutL xs lo hi).map g := by
  unfold cutL
  rw [List.length_map, List.map_take, List.map_drop]
theorem cutL_take {α : Type} (xs : List α) {n : Int} (h : 0 ≤ n) : cutL xs none (some n) = xs.take n.toNat := by
  obtain ⟨m, rfl⟩ := Int.eq_ofNat_of_zero_le h
  unfold cutL
  rw [HT.sIx_nat, HT.sIx_none, Nat.sub_zero, List.drop_zero, Int.toNat_natCast]
  rcases Nat.le_total m xs.length with h | h
  · rw [Nat.min_eq_left h]
  · rw [Nat.min_eq_right h, List.take_of_length_le (Nat.le_refl _), List.take_of_length_le h]
mutual
theorem mc_sb (f : Str → D) : ∀ {t u : D} {cs : List (Str × D)}, mc t u = some cs → (∀ x d, (x, d) ∈ cs → f x = d) → sb f t = u
  | .str x, u, cs, h, hf => by
    have h : some [(x, u)] = some cs := by cases u <;> exact h
    cases h; exact hf x u (by simp)
  | .tup ds, .tup es, cs, h, hf => by
    show D.tup (sbT f ds) = _
    rw [mcT_sb f (show mcT ds es = some cs from h) hf]
  | .tup ds, .str _, cs, h, hf => by simp [mc] at h
  | .tup ds, .non, cs, h, hf => by simp [mc] at h
  | .tup ds, .bl _, cs, h, hf => by simp [mc] at h
  | .tup ds, .int _, cs, h, hf => by simp [mc] at h
  | .tup ds, .kt _, cs, h, hf => by simp [mc] at h
  | .tup ds, .key _, cs, h, hf => by simp [mc] at h
  | .tup ds, .ref _, cs, h, hf => by simp [mc] at h
  | .tup ds, .ty _, cs, h, hf => by simp [mc] at h
  | .tup ds, .cl _, cs, h, hf => by simp [mc] at h
  | .non, u, cs, h, hf => by simp [mc] at h
  | .bl _, u, cs, h, hf => by simp [mc] at h
  | .int _, u, cs, h, hf => by simp [mc] at h
  | .kt _, u, cs, h, hf => by simp [mc] at h
  | .key _, u, cs, h, hf => by simp [mc] at h
  | .ref _, u, cs, h, hf => by simp [mc] at h
  | .ty _, u, cs, h, hf => by simp [mc] at h
  | .cl _, u, cs, h, hf => by simp [mc] at h
theorem mcT_sb (f : Str → D) : ∀ {ds es : List D} {cs : List (Str × D)}, mcT ds es = some cs → (∀ x d, (x, d) ∈ cs → f x = d) → sbT f ds = es
  | [], _, cs, h, hf => by simp [mcT] at h
  | w :: ts, [], cs, h, hf => by simp [mcT] at h
  | w :: ts, w' :: us, cs, h, hf => by
    have h : (if w = w' then mcS ts us else none) = some cs := h
    split at h
    · rename_i e
      show w :: sbS f ts = _
      rw [mcS_sb f h hf, e]
    · cases h
theorem mcS_sb (f : Str → D) : ∀ {ts us : List D} {cs : List (Str × D)}, mcS ts us = some cs → (∀ x d, (x, d) ∈ cs → f x = d) → sbS f ts = us
  | [], [], cs, h, hf => rfl
  | [], u :: us, cs, h, hf => by simp [mcS] at h
  | t :: ts, [], cs, h, hf => by simp [mcS] at h
  | t :: ts, u :: us, cs, h, hf => by
    unfold mcS at h
    split at h
    · rename_i a b h1 h2
      cases h
      show sb f t :: sbS f ts = _
      rw [mc_sb f h1 fun x d hd => hf x d (List.mem_append_left _ hd), mcS_sb f h2 fun x d hd => hf x d (List.mem_append_right _ hd)]
    · cases h
end
theorem putD_same {ys : List Str} {g : Str → D} {x : Str} : putD (ys.map fun y => (D.str y, g y)) (.str x) (g x) = (nmAdd ys x).map fun y => (D.str y, g y) := by
  have hk : ((ys.map fun y => (D.str y, g y)).any fun kv => decide (kv.1 = D.str x)) = decide (x ∈ ys) := by
    induction ys with
    | nil => rfl
    | cons y ys ih =>
      show (decide (D.str y = D.str x) || (ys.map fun y => (D.str y, g y)).any fun kv => decide (kv.1 = D.str x)) = _
      rw [ih]
      by_cases e : y = x
      · subst e; simp
      · have : ¬ x = y := fun z => e z.symm
        simp [e, this]
  unfold putD nmAdd
  rw [hk]
  by_cases e : x ∈ ys
  · rw [if_pos (by simpa using e), if_pos e, List.map_map]
    apply List.map_congr_left
    intro y hy
    show (if D.str y = D.str x then ((D.str y, g x) : D × D) else (D.str y, g y)) = _
    by_cases z : y = x
    · rw [z]; simp
    · rw [if_neg (fun q => z (by cases q; rfl))]
  · rw [if_neg (by simpa using e), if_neg e, List.map_append]; rfl
theorem mergeD_tab {g : Str → D} : ∀ (xs ys : List Str), mergeD (ys.map fun y => (D.str y, g y)) (xs.map fun x => (D.str x, g x)) = (xs.foldl nmAdd ys).map fun y => (D.str y, g y)
  | [], ys => rfl
  | x :: xs, ys => by
    show mergeD (putD (ys.map fun y => (D.str y, g y)) (.str x) (g x)) (xs.map fun x => (D.str x, g x)) = _
    rw [putD_same, mergeD_tab xs]; rfl
theorem led_tab {g : Str → D} (xs : List Str) {x : Str} (h : x ∈ xs) : led (mergeD [] ((xs.map fun x => (x, g x)).map prK)) x = g x := by
  have := mergeD_tab (g := g) xs []
  have e : (xs.map fun x => (x, g x)).map prK = xs.map fun x => (D.str x, g x) := by rw [List.map_map]; rfl
  unfold led
  rw [e, show mergeD [] (xs.map fun x => (D.str x, g x)) = (xs.foldl nmAdd []).map fun y => (D.str y, g y) from this, lookD_map, if_pos (mem_foldl_nm.mpr (.inr h))]
  rfl
theorem matchR_sound {ts us : List D} {ps : List (Str × D)} (h : matchR ts us = some ps) : ts.map (sb (led (mergeD [] (ps.map prK)))) = us := by
  unfold matchR at h
  split at h
  · split at h
    · rename_i cs e
      split at h
      · rename_i hc
        cases h
        rw [← sbS_map]
        refine mcS_sb _ e fun x d hd => ?_
        have hx : x ∈ namesOf ts := by rw [namesOf_nub e]; exact mem_nub.mpr ⟨d, hd⟩
        rw [led_tab (namesOf ts) hx]
        exact hc x _ _ (lkS_mem ⟨d, hd⟩) hd
      · cases h
    · cases h
  · cases h
theorem mc_self {W : Str → Nat → Prop} {V : Str → Prop} : ∀ {n : Nat} {d : D}, Tm W V n d → ∃ cs, mc d d = some cs ∧ ∀ c ∈ cs, c.2 = .str c.1
  | 0, d, h => by
    rcases h with ⟨x, h1, rfl⟩ | ⟨w, h1, rfl⟩
    · exact ⟨[(x, .str x)], rfl, by simp⟩
    · exact ⟨[], by show (if D.str w = D.str w then mcS [] [] else none) = _; rw [if_pos rfl]; rfl, by simp⟩
  | n + 1, d, h => by
    rcases h with ⟨x, h1, rfl⟩ | ⟨w, ts, h1, rfl, h3⟩
    · exact ⟨[(x, .str x)], rfl, by simp⟩
    · have go : ∀ ts : List D, (∀ t ∈ ts, Tm W V n t) → ∃ cs, mcS ts ts = some cs ∧ ∀ c ∈ cs, c.2 = .str c.1 := fun ts => by
        induction ts with
        | nil => exact fun _ => ⟨[], rfl, by simp⟩
        | cons t ts ih =>
          intro h
          obtain ⟨a, a1, a2⟩ := mc_self (h t (by simp))
          obtain ⟨b, b1, b2⟩ := ih fun u hu => h u (by simp [hu])
          refine ⟨a ++ b, ?_, fun c hc => (List.mem_append.mp hc).elim (a2 c) (b2 c)⟩
          show (match mc t t, mcS ts ts with | some a, some b => some (a ++ b) | _, _ => none) = _
          rw [a1, b1]
      obtain ⟨cs, c1, c2⟩ := go ts h3
      exact ⟨cs, by show (if D.str w = D.str w then mcS ts ts else none) = _; rw [if_pos rfl]; exact c1, c2⟩
theorem mcS_self {W : Str → Nat → Prop} {V : Str → Prop} {n : Nat} : ∀ {ts : List D}, (∀ t ∈ ts, Tm W V n t) → ∃ cs, mcS ts ts = some cs ∧ ∀ c ∈ cs, c.2 = .str c.1
  | [], _ => ⟨[], rfl, by simp⟩
  | t :: ts, h => by
    obtain ⟨a, a1, a2⟩ := mc_self (h t (by simp))
    obtain ⟨b, b1, b2⟩ := mcS_self (ts := ts) fun u hu => h u (List.mem_cons_of_mem _ hu)
    refine ⟨a ++ b, ?_, fun c hc => (List.mem_append.mp hc).elim (a2 c) (b2 c)⟩
    show (match mc t t, mcS ts ts with | some a, some b => some (a ++ b) | _, _ => none) = _
    rw [a1, b1]
theorem matchR_self {W : Str → Nat → Prop} {V : Str → Prop} {n : Nat} {ts : List D} (h : ∀ t ∈ ts, Tm W V n t) : ∃ ps, matchR ts ts = some ps := by
  obtain ⟨cs, h1, h2⟩ := mcS_self h
  have : Cons cs := fun x d e hd he => by rw [show d = _ from h2 _ hd, show e = _ from h2 _ he]
  exact ⟨_, by unfold matchR; rw [if_pos rfl, h1]; exact if_pos this⟩
mutual
theorem pre_len : ∀ (d : D) {x : D}, x ∈ pre d → (pre x).length ≤ (pre d).length
  | .tup ds, x, hx => by
    rcases List.mem_cons.mp (show x ∈ .tup ds :: preT ds from hx) with rfl | hx
    · exact Nat.le_refl _
    · exact Nat.le_succ_of_le (preT_len ds hx)
  | .non, x, hx => by rw [List.mem_singleton.mp (show x ∈ [D.non] from hx)]; exact Nat.le_refl _
  | .bl b, x, hx => by rw [List.mem_singleton.mp (show x ∈ [D.bl b] from hx)]; exact Nat.le_refl _
  | .int b, x, hx => by rw [List.mem_singleton.mp (show x ∈ [D.int b] from hx)]; exact Nat.le_refl _
  | .str b, x, hx => by rw [List.mem_singleton.mp (show x ∈ [D.str b] from hx)]; exact Nat.le_refl _
  | .kt b, x, hx => by rw [List.mem_singleton.mp (show x ∈ [D.kt b] from hx)]; exact Nat.le_refl _
  | .key b, x, hx => by rw [List.mem_singleton.mp (show x ∈ [D.key b] from hx)]; exact Nat.le_refl _
  | .ref b, x, hx => by rw [List.mem_singleton.mp (show x ∈ [D.ref b] from hx)]; exact Nat.le_refl _
  | .ty b, x, hx => by rw [List.mem_singleton.mp (show x ∈ [D.ty b] from hx)]; exact Nat.le_refl _
  | .cl b, x, hx => by rw [List.mem_singleton.mp (show x ∈ [D.cl b] from hx)]; exact Nat.le_refl _
theorem preT_len : ∀ (ds : List D) {x : D}, x ∈ preT ds → (pre x).length ≤ (preT ds).length
  | [], x, hx => by cases hx
  | _ :: ts, x, hx => preS_len ts hx
theorem preS_len : ∀ (ds : List D) {x : D}, x ∈ preS ds → (pre x).length ≤ (preS ds).length
  | [], x, hx => by cases hx
  | t :: ts, x, hx => by
    have e : (preS (t :: ts)).length = (pre t).length + (preS ts).length := List.length_append
    rcases List.mem_append.mp (show x ∈ pre t ++ preS ts from hx) with hx | hx
    · have := pre_len t hx; omega
    · have := preS_len ts hx; omega
end
end Lr
namespace Lr
open PySem L2
/-! ### names are names -/
def isNm (x : Str) : Bool := decide (1 ≤ x.length) && decide (x.length ≤ 8) && !inK x && x.cps.toList.all fun c => decide (c ∈ letL.cps.toList)
theorem q_az : ∀ c ∈ (Str.ofString "q").cps.toList, c ∈ letL.cps.toList := by decide +kernel
theorem x_az : ∀ c ∈ (Str.ofString "x").cps.toList, c ∈ letL.cps.toList := by decide +kernel
theorem cut_az {st : Str} (h : ∀ c ∈ st.cps.toList, c ∈ letL.cps.toList) (lo hi : Option Int) : ∀ c ∈ (cutS st lo hi).cps.toList, c ∈ letL.cps.toList := fun c hc => by
  have hc : c ∈ ((st.cps.toList.drop _).take _).toArray.toList := hc
  exact h c (List.mem_of_mem_drop (List.mem_of_mem_take hc))
theorem raw_az {st : Str} {a f k : Int} (h : Stem st a f) (hk : 0 ≤ k) : ∀ c ∈ (rawN st a f k).cps.toList, c ∈ letL.cps.toList := fun c hc => by
  unfold rawN at hc
  rw [app_list, app_list, app_list] at hc
  simp only [List.mem_append] at hc
  rcases hc with ((hc | hc) | hc) | hc
  · exact cut_az h.az _ _ c hc
  · exact ltr_az _ (by omega) (by omega) c hc
  · exact cut_az h.az _ _ c hc
  · rw [q_list hk] at hc
    split at hc
    · rw [List.mem_singleton.mp hc]; decide +kernel
    · cases hc
theorem name_az {st : Str} {a f k : Int} (h : Stem st a f) (hk : 0 ≤ k) : ∀ c ∈ (nameOf st a f k).cps.toList, c ∈ letL.cps.toList := fun c hc => by
  unfold nameOf at hc
  split at hc
  · rw [app_list] at hc
    rcases List.mem_append.mp hc with hc | hc
    · exact raw_az h hk c hc
    · exact x_az c hc
  · exact raw_az h hk c hc
theorem name_inK {st : Str} {a f k : Int} : inK (nameOf st a f k) = false := by
  unfold nameOf
  split
  · cases e : inK (rawN st a f k ++ Str.ofString "x") with
    | false => rfl
    | true =>
      have ex : (Str.ofString "x").cps.toList = [120] := by decide +kernel
      have l : (rawN st a f k ++ Str.ofString "x").cps.toList.getLast? = some 120 := by rw [app_list, ex, List.getLast?_append]; rfl
      rcases inK_iff.mp e with h | h | h <;> rw [h] at l <;> simp at l
  · rename_i h
    simpa using h
theorem isNm_of {x : Str} (h1 : 1 ≤ x.length) (h2 : x.length ≤ 8) (h3 : inK x = false) (h4 : ∀ c ∈ x.cps.toList, c ∈ letL.cps.toList) : isNm x = true := by
  unfold isNm
  rw [h3, decide_eq_true h1, decide_eq_true h2]
  simp only [Bool.true_and, Bool.not_false]
  rw [List.all_eq_true]
  intro c hc
  exact decide_eq_true (h4 c hc)
theorem name_isNm {st : Str} {a f k : Int} (h : Stem st a f) (hk : 0 ≤ k) : isNm (nameOf st a f k) = true :=
  isNm_of (nameOf_len h hk).1 (nameOf_len h hk).2 name_inK (name_az h hk)
theorem YsOk.isNm {st : Str} {a f : Int} {ys : List Str} (h : YsOk st a f ys) : ∀ x ∈ ys, Lr.isNm x = true := by
  have hb : ∀ x ∈ baseN st a f 20, Lr.isNm x = true := fun x hx => by
    obtain ⟨i, _, rfl⟩ := List.mem_map.mp hx
    exact name_isNm h.1 (by omega)
  rcases h.2 with rfl | ⟨rfl, h2, h3⟩
  · exact hb
  · intro x hx
    rcases List.mem_or_eq_of_mem_set hx with hx | rfl
    · exact hb x hx
    · refine isNm_of ?_ (by omega) h3 fun c hc => ?_
      · unfold bothN
        rw [len_app]
        have := (nameOf_len h.1 (k := 8) (by decide)).1
        omega
      · unfold bothN at hc
        rw [app_list] at hc
        rcases List.mem_append.mp hc with hc | hc
        · exact name_az h.1 (by decide) c hc
        · exact name_az h.1 (by decide) c hc
theorem nodup_get {α : Type} : ∀ {xs : List α}, (∀ (i j : Nat) x, xs[i]? = some x → xs[j]? = some x → i = j) → xs.Nodup
  | [], _ => List.nodup_nil
  | y :: ys, h => by
    rw [List.nodup_cons]
    refine ⟨fun hy => ?_, nodup_get fun i j x h1 h2 => ?_⟩
    · obtain ⟨j, hj⟩ := List.mem_iff_getElem?.mp hy
      have := h 0 (j + 1) y rfl (by simpa using hj)
      omega
    · have := h (i + 1) (j + 1) x (by simpa using h1) (by simpa using h2)
      omega
theorem baseN_inj {st : Str} {a f : Int} {n i j : Nat} {x : Str} (hn : n ≤ 26) (h1 : (baseN st a f n)[i]? = some x) (h2 : (baseN st a f n)[j]? = some x) : i = j := by
  have hi := (List.getElem?_eq_some_iff.mp h1).1
  have hj := (List.getElem?_eq_some_iff.mp h2).1
  rw [baseN_len] at hi hj
  rw [baseN_get hi] at h1
  rw [baseN_get hj] at h2
  have e : nameOf st a f (i : Nat) = nameOf st a f (j : Nat) := by
    rw [Option.some.inj h1, Option.some.inj h2]
  have := name_inj (by omega) (by omega) (by omega) (by omega) e
  omega
theorem YsOk.inj {st : Str} {a f : Int} {ys : List Str} (h : YsOk st a f ys) {i j : Nat} {x : Str} (h1 : ys[i]? = some x) (h2 : ys[j]? = some x) : i = j := by
  rcases h.2 with rfl | ⟨rfl, _, _⟩
  · exact baseN_inj (by decide) h1 h2
  · have hb : ∀ k : Nat, k ≠ 7 → ((baseN st a f 20).set 7 (bothN st a f))[k]? = some (bothN st a f) → False := fun k hk e => by
      rw [List.getElem?_set_ne (by omega)] at e
      have hl := (List.getElem?_eq_some_iff.mp e).1
      rw [baseN_len] at hl
      rw [baseN_get hl] at e
      exact both_ne h.1.a0 h.1.a1 (i := (k : Nat)) (by omega) (by omega) (Option.some.inj e).symm
    have e7 : ((baseN st a f 20).set 7 (bothN st a f))[7]? = some (bothN st a f) := by
      rw [List.getElem?_set_self (by rw [baseN_len]; decide)]
    by_cases z1 : i = 7
    · subst z1
      rw [e7] at h1
      cases h1
      by_cases z2 : j = 7
      · exact z2.symm
      · exact (hb j z2 h2).elim
    · by_cases z2 : j = 7
      · subst z2
        rw [e7] at h2
        cases h2
        exact (hb i z1 h1).elim
      · rw [List.getElem?_set_ne (by omega)] at h1 h2
        exact baseN_inj (by decide) h1 h2
theorem YsOk.nodup {st : Str} {a f : Int} {ys : List Str} (h : YsOk st a f ys) : ys.Nodup := nodup_get fun i j x h1 h2 => h.inj h1 h2
end Lr
namespace Lr
open PySem L2
/-! ### a term among terms -/
theorem eqF_tm {x d : D} (hx : tmD x = true) (hd : tmD d = true) (fx : flatD x = true) (fd : flatD d = true) : eqF d x = decide (d = x) := by
  cases d <;> first | (simp [tmD] at hd; done) | skip
  · cases x <;> first | (simp [tmD] at hx; done) | skip
    · rename_i a b
      show (a == b) = _
      by_cases e : a = b <;> simp [e]
    · simp [flatD] at fx
  · simp [flatD] at fd
theorem any_tm {x : D} (hx : tmD x = true) (fx : flatD x = true) : ∀ {ds : List D}, (∀ d ∈ ds, tmD d = true) → ds.all flatD = true → (ds.any fun y => eqF y x) = decide (x ∈ ds)
  | [], _, _ => rfl
  | d :: ds, h, hf => by
    rw [List.all_cons, Bool.and_eq_true] at hf
    show (eqF d x || ds.any fun y => eqF y x) = _
    rw [eqF_tm hx (h d (by simp)) fx hf.1, any_tm hx fx (fun e he => h e (by simp [he])) hf.2]
    by_cases e : d = x
    · subst e; simp
    · have : ¬ x = d := fun z => e z.symm
      simp [e, this]
theorem any_eqv_tm {x : D} (hx : tmD x = true) : ∀ {ds : List D}, (∀ d ∈ ds, tmD d = true) → ((D.pys ds).any fun z => PyData.eqv z x.py) = decide (x ∈ ds)
  | [], _ => rfl
  | d :: ds, h => by
    show (PyData.eqv d.py x.py || (D.pys ds).any fun z => PyData.eqv z x.py) = _
    rw [eqv_tm d x (h d (by simp)) hx, any_eqv_tm hx fun e he => h e (by simp [he])]
    by_cases e : d = x
    · subst e; simp
    · have : ¬ x = d := fun z => e z.symm
      simp [e, this]
theorem memF_tm {x : D} {ds : List D} {S : Sto} {B : Bool → Prop} (hx : tmD x = true) (hd : ∀ d ∈ ds, tmD d = true) (hz : x.py.depth ≤ 63) (h : B (decide (x ∈ ds))) : memM.memF x ds S B := by
  unfold memM.memF
  cases hf : flatD x && ds.all flatD with
  | true =>
    rw [Bool.and_eq_true] at hf
    show B _
    rw [any_tm hx hf.1 hd hf.2]; exact h
  | false =>
    show (match pyv S x, D.pyWs (pyA S 16) ds with
      | some d, some es => (PyData.depthAll es ≤ 63 ∨ d.depth ≤ 63) ∧ B (es.any fun z => PyData.eqv z d)
      | _, _ => False)
    rw [pyv_plain (tmD_plain x hx), pyWs_plain _ ds (tmDs_plain ds (tmDs_iff.mpr hd))]
    refine ⟨.inr hz, ?_⟩
    rw [any_eqv_tm hx hd]; exact h
theorem mem_tm {x : D} {a : Nat} {ds : List D} {S : Sto} {B : Bool → Prop} (ha : S a = some (.lst ds)) (hx : tmD x = true) (hd : ∀ d ∈ ds, tmD d = true) (hz : x.py.depth ≤ 63) (h : B (decide (x ∈ ds))) : cmpM .mem x (.ref a) S B := by
  have go : memM x (.ref a) S B := by
    cases x <;> first | (simp [tmD] at hx; done) | skip
    all_goals
      show (match S a with
        | some (.lst ds) => memM.memF _ ds S B
        | some (.rol ds) => memM.memF _ ds S B
        | some (.dct t kvs) => isKey t _ = true ∧ B (lookD kvs _).isSome
        | _ => False)
      rw [ha]
      exact memF_tm hx hd hz h
  exact go
/-! ### a book looked at -/
def mkK (m : Str × Int) : D × D := (.str m.1, .int m.2)
theorem look_mk : ∀ {ms : List (Str × Int)} {w : Str} {n : Int}, (ms.map Prod.fst).Nodup → (w, n) ∈ ms → lookD (ms.map mkK) (.str w) = some (.int n)
  | [], _, _, _, h => by cases h
  | m :: ms, w, n, hn, h => by
    rw [List.map_cons, List.nodup_cons] at hn
    show (if D.str m.1 = D.str w then some (D.int m.2) else lookD (ms.map mkK) (.str w)) = _
    rcases List.mem_cons.mp h with rfl | h
    · rw [if_pos rfl]
    · have : ¬ D.str m.1 = D.str w := fun z => hn.1 (by cases z; exact List.mem_map.mpr ⟨_, h, rfl⟩)
      rw [if_neg this]
      exact look_mk hn.2 h
theorem look_mk_none : ∀ {ms : List (Str × Int)} {w : Str}, w ∉ ms.map Prod.fst → lookD (ms.map mkK) (.str w) = none
  | [], _, _ => rfl
  | m :: ms, w, h => by
    rw [List.map_cons, List.mem_cons, not_or] at h
    show (if D.str m.1 = D.str w then some (D.int m.2) else lookD (ms.map mkK) (.str w)) = _
    have : ¬ D.str m.1 = D.str w := fun z => h.1 (by cases z; rfl)
    rw [if_neg this]
    exact look_mk_none h.2
def findS (ss : List Say) (x : Str) : Option Say := ss.find? fun s => decide (s.name = x)
def sayO : Option Say → D
  | some s => sayD s
  | none => .non
theorem find_of : ∀ {ss : List Say} {s : Say}, (ss.map (·.name)).Nodup → s ∈ ss → findS ss s.name = some s
  | [], _, _, h => by cases h
  | t :: ss, s, hn, h => by
    rw [List.map_cons, List.nodup_cons] at hn
    rcases List.mem_cons.mp h with rfl | h
    · exact List.find?_cons_of_pos (by simp)
    · have : ¬ t.name = s.name := fun z => hn.1 (by rw [z]; exact List.mem_map.mpr ⟨s, h, rfl⟩)
      unfold findS
      rw [List.find?_cons_of_neg (by simpa using this)]
      exact find_of hn.2 h
def mkW' (ms : List (Str × Int)) : Str → Nat → Prop := fun w n => (w, (n : Int)) ∈ ms
/-- a book that is let by -/
structure Bk (ms : List (Str × Int)) (ss : List Say) : Prop where
  mz : ms.length ≤ 6
  mn : ∀ m ∈ ms, isNm m.1 = true
  md : (ms.map Prod.fst).Nodup
  mt : ∀ m ∈ ms, 0 ≤ m.2 ∧ m.2 ≤ 2
  sz : ss.length ≤ 6
  sn : ∀ s ∈ ss, isNm s.name = true
  sd : (ss.map (·.name)).Nodup
  sf : ∀ s ∈ ss, FormOk (s.many, s.byn)
  sr : ∀ s ∈ ss, s.rules.length ≤ 4 ∧ ∀ r ∈ s.rules, HeadsOk (mkW' ms) (fun x => isNm x = true) (s.many, s.byn) r.1 ∧ r.2.length ≤ 2 ∧ ∀ q ∈ r.2, ∃ s' ∈ ss, s'.name = q.1 ∧ NeedOk (mkW' ms) (s'.many, s'.byn) r.1 s.byn q.2
theorem Bk.nil : Bk [] [] := ⟨by decide, by simp, by simp, by simp, by decide, by simp, by simp, by simp, by simp⟩
end Lr

set_option Elab.async false
set_option linter.all false
set_option maxRecDepth 100000
set_option maxHeartbeats 4000000
/-! part 18: whys, plainly -/
namespace Lr
open PySem L2
abbrev At := Str × List D
abbrev Rl := List D × List At
def ndU (ps : List (Str × D)) (nd : At) : At := (nd.1, nd.2.map (sb (led (mergeD [] (ps.map prK)))))
def whsR (rc : At → D) (ps : List (Str × D)) (r : Rl) : List D := r.2.map fun nd => rc (ndU ps nd)
def firstR (rc : At → D) (ths : List D) : Nat → List Rl → D
  | _, [] => .non
  | i, r :: rs => match matchR r.1 ths with
    | none => firstR rc ths (i + 1) rs
    | some ps => if D.non ∈ whsR rc ps r then firstR rc ths (i + 1) rs else .tup [.int (i : Nat), .tup (whsR rc ps r)]
def whyF (ss : List Say) : Nat → At → D
  | 0, _ => .non
  | n + 1, q => match findS ss q.1 with
    | none => .non
    | some s => firstR (whyF ss n) q.2 0 s.rules
/-- a thing -/
def noN : Str → Prop := fun _ => False
def Gr (ms : List (Str × Int)) (t : D) : Prop := ∃ n, Tm (mkW' ms) noN n t
theorem Tm.tight {W : Str → Nat → Prop} {V : Str → Prop} : ∀ {n : Nat} {t : D}, Tm W V n t → Tm W V (pre t).length t
  | 0, t, h => h.le (Nat.zero_le _)
  | n + 1, t, h => by
    rcases h with ⟨x, h1, rfl⟩ | ⟨w, ts, h1, rfl, h3⟩
    · exact .inl ⟨x, h1, rfl⟩
    · show Tm W V ((preS ts).length + 1) _
      refine .inr ⟨w, ts, h1, rfl, fun t ht => ?_⟩
      refine (h3 t ht).tight.le ?_
      clear h1 h3
      induction ts with
      | nil => cases ht
      | cons u us ih =>
        have e : (preS (u :: us)).length = (pre u).length + (preS us).length := List.length_append
        rcases List.mem_cons.mp ht with rfl | ht
        · omega
        · have := ih ht; omega
theorem Gr.tm {ms : List (Str × Int)} {t : D} (h : Gr ms t) {B : Nat} (hB : (pre t).length ≤ B) : Tm (mkW' ms) noN B t := by
  obtain ⟨n, h⟩ := h
  exact h.tight.le hB
theorem Gr.part {ms : List (Str × Int)} {t x : D} (h : Gr ms t) (hx : x ∈ pre t) : Gr ms x := by
  obtain ⟨n, h⟩ := h
  exact ⟨n, h.parts x hx⟩
theorem Gr.split {ms : List (Str × Int)} {t : D} (h : Gr ms t) : ∃ w ts, mkW' ms w ts.length ∧ t = .tup (.str w :: ts) ∧ ∀ u ∈ ts, Gr ms u := by
  obtain ⟨n, h⟩ := h
  rcases h.split with ⟨x, hx, _⟩ | ⟨w, ts, h1, h2, h3⟩
  · exact hx.elim
  · exact ⟨w, ts, h1, h2, fun u hu => let ⟨m, _, hm⟩ := h3 u hu; ⟨m, hm⟩⟩
theorem pre_tail_lt {d x : D} (h : x ∈ (pre d).tail) : (pre x).length < (pre d).length := by
  cases d with
  | tup ds =>
    have := preT_len ds (show x ∈ preT ds from h)
    show _ < (preT ds).length + 1
    omega
  | _ => cases h
mutual
theorem sb_pre (f : Str → D) : ∀ (d : D) {x : D}, x ∈ pre d → sb f x ∈ pre (sb f d)
  | .tup ds, x, h => by
    rcases List.mem_cons.mp (show x ∈ .tup ds :: preT ds from h) with rfl | h
    · exact pre_self _
    · exact List.mem_cons_of_mem _ (sbT_pre f ds h)
  | .str y, x, h => by rw [List.mem_singleton.mp (show x ∈ [D.str y] from h)]; exact pre_self _
  | .non, x, h => by rw [List.mem_singleton.mp (show x ∈ [D.non] from h)]; exact pre_self _
  | .bl b, x, h => by rw [List.mem_singleton.mp (show x ∈ [D.bl b] from h)]; exact pre_self _
  | .int b, x, h => by rw [List.mem_singleton.mp (show x ∈ [D.int b] from h)]; exact pre_self _
  | .kt b, x, h => by rw [List.mem_singleton.mp (show x ∈ [D.kt b] from h)]; exact pre_self _
  | .key b, x, h => by rw [List.mem_singleton.mp (show x ∈ [D.key b] from h)]; exact pre_self _
  | .ref b, x, h => by rw [List.mem_singleton.mp (show x ∈ [D.ref b] from h)]; exact pre_self _
  | .ty b, x, h => by rw [List.mem_singleton.mp (show x ∈ [D.ty b] from h)]; exact pre_self _
  | .cl b, x, h => by rw [List.mem_singleton.mp (show x ∈ [D.cl b] from h)]; exact pre_self _
theorem sbT_pre (f : Str → D) : ∀ (ds : List D) {x : D}, x ∈ preT ds → sb f x ∈ preT (sbT f ds)
  | [], x, h => by cases h
  | _ :: ts, x, h => sbS_pre f ts h
theorem sbS_pre (f : Str → D) : ∀ (ts : List D) {x : D}, x ∈ preS ts → sb f x ∈ preS (sbS f ts)
  | [], x, h => by cases h
  | t :: ts, x, h => by
    rcases List.mem_append.mp (show x ∈ pre t ++ preS ts from h) with h | h
    · exact List.mem_append_left _ (sb_pre f t h)
    · exact List.mem_append_right _ (sbS_pre f ts h)
end
theorem sb_tail (f : Str → D) {d x : D} (h : x ∈ (pre d).tail) : sb f x ∈ (pre (sb f d)).tail := by
  cases d with
  | tup ds => exact sbT_pre f ds (show x ∈ preT ds from h)
  | _ => cases h
/-! ### atoms -/
mutual
theorem dp_pre : ∀ (d : D) {x : D}, x ∈ pre d → dp x ≤ dp d
  | .tup ds, x, h => by
    rcases List.mem_cons.mp (show x ∈ .tup ds :: preT ds from h) with rfl | h
    · exact Nat.le_refl _
    · exact Nat.le_of_lt (dp_preT ds h)
  | .str y, x, h => by rw [List.mem_singleton.mp (show x ∈ [D.str y] from h)]; exact Nat.le_refl _
  | .non, x, h => by rw [List.mem_singleton.mp (show x ∈ [D.non] from h)]; exact Nat.le_refl _
  | .bl b, x, h => by rw [List.mem_singleton.mp (show x ∈ [D.bl b] from h)]; exact Nat.le_refl _
  | .int b, x, h => by rw [List.mem_singleton.mp (show x ∈ [D.int b] from h)]; exact Nat.le_refl _
  | .kt b, x, h => by rw [List.mem_singleton.mp (show x ∈ [D.kt b] from h)]; exact Nat.le_refl _
  | .key b, x, h => by rw [List.mem_singleton.mp (show x ∈ [D.key b] from h)]; exact Nat.le_refl _
  | .ref b, x, h => by rw [List.mem_singleton.mp (show x ∈ [D.ref b] from h)]; exact Nat.le_refl _
  | .ty b, x, h => by rw [List.mem_singleton.mp (show x ∈ [D.ty b] from h)]; exact Nat.le_refl _
  | .cl b, x, h => by rw [List.mem_singleton.mp (show x ∈ [D.cl b] from h)]; exact Nat.le_refl _
theorem dp_preT : ∀ (ds : List D) {x : D}, x ∈ preT ds → dp x < dpT ds
  | [], x, h => by cases h
  | [_], x, h => by cases h
  | _ :: u :: us, x, h => by
    have := dp_preS (u :: us) (show x ∈ preS (u :: us) from h)
    show dp x < 1 + dpM (u :: us)
    omega
theorem dp_preS : ∀ (ts : List D) {x : D}, x ∈ preS ts → dp x ≤ dpM ts
  | [], x, h => by cases h
  | t :: ts, x, h => by
    show dp x ≤ max (dp t) (dpM ts)
    rcases List.mem_append.mp (show x ∈ pre t ++ preS ts from h) with h | h
    · exact Nat.le_trans (dp_pre t h) (Nat.le_max_left _ _)
    · exact Nat.le_trans (dp_preS ts h) (Nat.le_max_right _ _)
end
theorem dp_tail {d x : D} (h : x ∈ (pre d).tail) : dp x < dp d := by
  cases d with
  | tup ds => exact dp_preT ds (show x ∈ preT ds from h)
  | _ => cases h
mutual
theorem dp_len : ∀ d : D, dp d < (pre d).length
  | .tup ds => by
    have := dpT_len ds
    show dpT ds < (preT ds).length + 1
    omega
  | .str _ => Nat.zero_lt_one
  | .non => Nat.zero_lt_one
  | .bl _ => Nat.zero_lt_one
  | .int _ => Nat.zero_lt_one
  | .kt _ => Nat.zero_lt_one
  | .key _ => Nat.zero_lt_one
  | .ref _ => Nat.zero_lt_one
  | .ty _ => Nat.zero_lt_one
  | .cl _ => Nat.zero_lt_one
theorem dpT_len : ∀ ds : List D, dpT ds ≤ (preT ds).length
  | [] => Nat.le_refl _
  | [_] => Nat.le_refl _
  | _ :: u :: us => by
    have h1 := dp_len u
    have h2 := dpM_len us
    show 1 + max (dp u) (dpM us) ≤ (pre u ++ preS us).length
    rw [List.length_append]; omega
theorem dpM_len : ∀ ts : List D, dpM ts ≤ (preS ts).length
  | [] => Nat.le_refl _
  | t :: ts => by
    have h1 := dp_len t
    have h2 := dpM_len ts
    show max (dp t) (dpM ts) ≤ (pre t ++ preS ts).length
    rw [List.length_append]; omega
end
def muS (ss : List Say) (q : At) : Nat := match findS ss q.1 with
  | some s => (match q.2[s.byn]? with
    | some t => dp t + 1
    | none => 0)
  | none => 0
structure AV (ms : List (Str × Int)) (ss : List Say) (B : Nat) (q : At) (s : Say) : Prop where
  fnd : findS ss q.1 = some s
  mem : s ∈ ss
  len : q.2.length = s.many
  gr : ∀ t ∈ q.2, Gr ms t
  sz : ∀ t ∈ q.2, (pre t).length ≤ B
theorem AV.byth2 {ms : List (Str × Int)} {ss : List Say} (bk : Bk ms ss) {B : Nat} {q : At} {s : Say} (h : AV ms ss B q s) : ∃ t, q.2[s.byn]? = some t ∧ muS ss q = dp t + 1 := by
  have hf := bk.sf s h.mem
  have hl := h.len
  have : s.byn < q.2.length := by rw [hl]; exact hf.2.2
  refine ⟨_, List.getElem?_eq_getElem this, ?_⟩
  unfold muS
  rw [h.fnd]
  simp only [List.getElem?_eq_getElem this]
theorem AV.byth {ms : List (Str × Int)} {ss : List Say} (bk : Bk ms ss) {B : Nat} {q : At} {s : Say} (h : AV ms ss B q s) : ∃ t, q.2[s.byn]? = some t ∧ muS ss q ≤ (pre t).length := by
  obtain ⟨t, h1, h2⟩ := h.byth2 bk
  exact ⟨t, h1, by rw [h2]; exact dp_len t⟩
theorem AV.pos {ms : List (Str × Int)} {ss : List Say} (bk : Bk ms ss) {B : Nat} {q : At} {s : Say} (h : AV ms ss B q s) : 1 ≤ muS ss q := by
  obtain ⟨t, _, e⟩ := h.byth2 bk
  omega
theorem mem_strsIn {x : Str} : ∀ {ds : List D}, D.str x ∈ ds → x ∈ strsIn ds
  | [], h => by cases h
  | d :: ds, h => by
    rcases List.mem_cons.mp h with e | h
    · subst e; exact List.mem_cons_self ..
    · have := mem_strsIn h
      cases d <;> first | exact List.mem_cons_of_mem _ this | exact this
theorem mem_namesOf {ts : List D} {x : Str} (h : InN ts x) : x ∈ namesOf ts := by
  unfold namesOf nmAll
  exact mem_foldl_nm.mpr (.inr (mem_strsIn h))
theorem matchR_led {R : D → Prop} {ts us : List D} {ps : List (Str × D)} (h : matchR ts us = some ps) (hu : ∀ x ∈ preS us, R x) {x : Str} (hx : InN ts x) : R (led (mergeD [] (ps.map prK)) x) := by
  unfold matchR at h
  split at h
  · split at h
    · rename_i cs e
      split at h
      · cases h
        rw [led_tab (namesOf ts) (mem_namesOf hx)]
        have hn := mem_namesOf hx
        rw [namesOf_nub e] at hn
        have hm := lkS_mem (mem_nub.mp hn)
        have go : ∀ {ts us : List D} {cs : List (Str × D)}, mcS ts us = some cs → (∀ x ∈ preS us, R x) → ∀ c ∈ cs, R c.2 := fun {ts us cs} e hu => mcS_val e hu
        exact go e hu _ hm
      · cases h
    · cases h
  · cases h
where
  mc_val {R : D → Prop} : ∀ {t u : D} {cs : List (Str × D)}, mc t u = some cs → (∀ x ∈ pre u, R x) → ∀ c ∈ cs, R c.2
    | .str x, u, cs, h, hu => by
      have h : some [(x, u)] = some cs := by cases u <;> exact h
      cases h
      intro c hc
      rw [List.mem_singleton.mp hc]; exact hu u (pre_self u)
    | .tup ds, .tup es, cs, h, hu => mcT_val (show mcT ds es = some cs from h) fun x hx => hu x (List.mem_cons_of_mem _ hx)
    | .tup ds, .str _, cs, h, _ => by simp [mc] at h
    | .tup ds, .non, cs, h, _ => by simp [mc] at h
    | .tup ds, .bl _, cs, h, _ => by simp [mc] at h
    | .tup ds, .int _, cs, h, _ => by simp [mc] at h
    | .tup ds, .kt _, cs, h, _ => by simp [mc] at h
    | .tup ds, .key _, cs, h, _ => by simp [mc] at h
    | .tup ds, .ref _, cs, h, _ => by simp [mc] at h
    | .tup ds, .ty _, cs, h, _ => by simp [mc] at h
    | .tup ds, .cl _, cs, h, _ => by simp [mc] at h
    | .non, u, cs, h, _ => by simp [mc] at h
    | .bl _, u, cs, h, _ => by simp [mc] at h
    | .int _, u, cs, h, _ => by simp [mc] at h
    | .kt _, u, cs, h, _ => by simp [mc] at h
    | .key _, u, cs, h, _ => by simp [mc] at h
    | .ref _, u, cs, h, _ => by simp [mc] at h
    | .ty _, u, cs, h, _ => by simp [mc] at h
    | .cl _, u, cs, h, _ => by simp [mc] at h
  mcT_val {R : D → Prop} : ∀ {ds es : List D} {cs : List (Str × D)}, mcT ds es = some cs → (∀ x ∈ preT es, R x) → ∀ c ∈ cs, R c.2
    | [], _, cs, h, _ => by simp [mcT] at h
    | w :: ts, [], cs, h, _ => by simp [mcT] at h
    | w :: ts, w' :: us, cs, h, hu => by
      have h : (if w = w' then mcS ts us else none) = some cs := h
      split at h
      · exact mcS_val h hu
      · cases h
  mcS_val {R : D → Prop} : ∀ {ts us : List D} {cs : List (Str × D)}, mcS ts us = some cs → (∀ x ∈ preS us, R x) → ∀ c ∈ cs, R c.2
    | [], [], cs, h, _ => by cases h; exact fun c hc => by cases hc
    | [], u :: us, cs, h, _ => by simp [mcS] at h
    | t :: ts, [], cs, h, _ => by simp [mcS] at h
    | t :: ts, u :: us, cs, h, hu => by
      unfold mcS at h
      split at h
      · rename_i a b h1 h2
        cases h
        intro c hc
        rcases List.mem_append.mp hc with hc | hc
        · exact mc_val h1 (fun x hx => hu x (List.mem_append_left _ hx)) c hc
        · exact mcS_val h2 (fun x hx => hu x (List.mem_append_right _ hx)) c hc
      · cases h
theorem sb_small {ms : List (Str × Int)} {B : Nat} (f : Str → D) {V : Str → Prop} {t : D} {n : Nat} (ht : Tm (mkW' ms) V n t) (h : (pre t).length ≤ 2) (hB : 1 ≤ B) (hf : ∀ x, V x → (pre (f x)).length ≤ B) : (pre (sb f t)).length ≤ B + 1 := by
  rcases ht.split with ⟨x, hx, rfl⟩ | ⟨w, ts, hw, rfl, hts⟩
  · have := hf x hx
    show (pre (f x)).length ≤ _
    omega
  · rw [sb_tup]
    have h2 : (preS ts).length + 1 ≤ 2 := h
    show (preS (ts.map (sb f))).length + 1 ≤ B + 1
    rcases ts with _ | ⟨u, us⟩
    · simp [preS]
    · have e : (preS (u :: us)).length = (pre u).length + (preS us).length := List.length_append
      have hu := Tm.pos u
      have hus : us = [] := by
        rcases us with _ | ⟨v, vs⟩
        · rfl
        · have e2 : (preS (v :: vs)).length = (pre v).length + (preS vs).length := List.length_append
          have hv := Tm.pos v
          omega
      subst hus
      have e3 : (preS [sb f u]).length = (pre (sb f u)).length := by show (pre (sb f u) ++ []).length = _; rw [List.append_nil]
      show (preS [sb f u]).length + 1 ≤ _
      rw [e3]
      obtain ⟨m, _, hm⟩ := hts u (by simp)
      have hu1 : (pre u).length ≤ 1 := by omega
      rcases hm.split with ⟨x, hx, rfl⟩ | ⟨w', ts', hw', rfl, hts'⟩
      · have := hf x hx
        show (pre (f x)).length + 1 ≤ _
        omega
      · have hu1 : (preS ts').length + 1 ≤ 1 := hu1
        rcases ts' with _ | ⟨v, vs⟩
        · show 1 + 1 ≤ B + 1; omega
        · have e2 : (preS (v :: vs)).length = (pre v).length + (preS vs).length := List.length_append
          have hv := Tm.pos v
          omega
theorem AV.need {ms : List (Str × Int)} {ss : List Say} (bk : Bk ms ss) {B : Nat} {q : At} {s : Say} (h : AV ms ss B q s) {r : Rl} (hr : r ∈ s.rules) {ps : List (Str × D)} (hp : matchR r.1 q.2 = some ps) {nd : At} (hn : nd ∈ r.2) :
    ∃ s', AV ms ss (B + 1) (ndU ps nd) s' ∧ muS ss (ndU ps nd) < muS ss q := by
  obtain ⟨_, hsr⟩ := bk.sr s h.mem
  obtain ⟨hh, _, hnd⟩ := hsr r hr
  obtain ⟨s', hs', hnm, hne⟩ := hnd nd hn
  have hR : ∀ x ∈ preS q.2, Gr ms x ∧ (pre x).length ≤ B := fun x hx => by
    obtain ⟨u, h1, h2⟩ := preS_sub' hx
    exact ⟨(h.gr u h1).part h2, Nat.le_trans (pre_len u h2) (h.sz u h1)⟩
  have hled : ∀ x, InN r.1 x → Gr ms (led (mergeD [] (ps.map prK)) x) ∧ (pre (led (mergeD [] (ps.map prK)) x)).length ≤ B := fun x hx => matchR_led (R := fun d => Gr ms d ∧ (pre d).length ≤ B) hp hR hx
  have hsound := matchR_sound hp
  have hfind : findS ss nd.1 = some s' := by rw [← hnm]; exact find_of bk.sd hs'
  obtain ⟨t0, hb0, hmu⟩ := h.byth2 bk
  have hB1 : 1 ≤ B := by
    have := h.sz t0 (List.mem_of_getElem? hb0)
    have := Tm.pos t0
    omega
  generalize hfd : led (mergeD [] (ps.map prK)) = f at hled hsound
  have hnu : ndU ps nd = (nd.1, nd.2.map (sb f)) := by unfold ndU; rw [hfd]
  rw [hnu]
  have hby : ∀ {hd t : D}, r.1[s.byn]? = some hd → t ∈ (pre hd).tail → (pre (sb f t)).length < (pre t0).length ∧ dp (sb f t) + 1 < muS ss q := fun {hd t} e1 e2 => by
    have e3 : (r.1.map (sb f))[s.byn]? = some (sb f hd) := by rw [List.getElem?_map, e1]; rfl
    rw [hsound, hb0] at e3
    rw [hmu, Option.some.inj e3]
    exact ⟨pre_tail_lt (sb_tail f e2), Nat.succ_lt_succ (dp_tail (sb_tail f e2))⟩
  have hmuB : (pre t0).length ≤ B := h.sz t0 (List.mem_of_getElem? hb0)
  have av : AV ms ss (B + 1) (nd.1, nd.2.map (sb f)) s' := by
    refine ⟨hfind, hs', ?_, fun t ht => ?_, fun t ht => ?_⟩
    · show (nd.2.map (sb f)).length = _
      rw [List.length_map]; exact hne.len
    · obtain ⟨u, hu, rfl⟩ := List.mem_map.mp ht
      exact ⟨_, (hne.tm u hu).sb (m := B) fun x hx => (hled x hx).1.tm (hled x hx).2⟩
    · obtain ⟨u, hu, rfl⟩ := List.mem_map.mp ht
      rcases hne.sz u hu with h2 | ⟨hd, e1, e2⟩
      · exact sb_small f (hne.tm u hu) h2 hB1 fun x hx => (hled x hx).2
      · have := (hby e1 e2).1; omega
  refine ⟨s', av, ?_⟩
  obtain ⟨hd, t, e1, e2, e3⟩ := hne.less
  have e4 : (nd.2.map (sb f))[s'.byn]? = some (sb f t) := by rw [List.getElem?_map]; simp only at e2; rw [e2]; rfl
  have : muS ss (nd.1, nd.2.map (sb f)) = dp (sb f t) + 1 := by
    unfold muS
    simp only [hfind, e4]
  rw [this]
  exact (hby e1 e3).2
theorem firstR_congr {rc rc' : At → D} {ths : List D} : ∀ {i : Nat} {rs : List Rl}, (∀ r ∈ rs, ∀ ps, matchR r.1 ths = some ps → ∀ nd ∈ r.2, rc (ndU ps nd) = rc' (ndU ps nd)) → firstR rc ths i rs = firstR rc' ths i rs
  | _, [], _ => rfl
  | i, r :: rs, h => by
    have ih := firstR_congr (rc := rc) (rc' := rc') (ths := ths) (i := i + 1) (rs := rs) fun r' hr' => h r' (List.mem_cons_of_mem _ hr')
    unfold firstR
    cases e : matchR r.1 ths with
    | none => exact ih
    | some ps =>
      have ew : whsR rc ps r = whsR rc' ps r := List.map_congr_left fun nd hn => h r (List.mem_cons_self ..) ps e nd hn
      simp only
      rw [ew, ih]
theorem why_fuel {ms : List (Str × Int)} {ss : List Say} (bk : Bk ms ss) : ∀ (n : Nat) {B : Nat} {q : At} {s : Say}, AV ms ss B q s → muS ss q ≤ n → ∀ m, n ≤ m → whyF ss m q = whyF ss n q
  | 0, B, q, s, h, hn, m, _ => by have := h.pos bk; omega
  | n + 1, B, q, s, h, hn, m, hm => by
    obtain ⟨m, rfl⟩ : ∃ k, m = k + 1 := ⟨m - 1, by omega⟩
    unfold whyF
    rw [h.fnd]
    refine firstR_congr fun r hr ps hp nd hnd => ?_
    obtain ⟨s', av, hlt⟩ := h.need bk hr hp hnd
    exact why_fuel bk n av (by omega) m (by omega)
/-- the first why of an atom -/
def whyW (ss : List Say) (q : At) : D := whyF ss 100 q
theorem why_eq {ms : List (Str × Int)} {ss : List Say} (bk : Bk ms ss) {B : Nat} {q : At} {s : Say} (h : AV ms ss B q s) (hn : muS ss q ≤ 100) : whyW ss q = firstR (whyW ss) q.2 0 s.rules := by
  show whyF ss (99 + 1) q = _
  unfold whyF
  rw [h.fnd]
  refine firstR_congr fun r hr ps hp nd hnd => ?_
  obtain ⟨s', av, hlt⟩ := h.need bk hr hp hnd
  exact (why_fuel bk 99 av (by omega) 100 (by omega)).symm
/-! ### as texts -/
def headW : D → Str
  | .tup (.str w :: _) => w
  | _ => ⟨#[]⟩
def wordsT (t : D) : List Str := (pre t).map headW
def wordsS (ts : List D) : List Str := (preS ts).map headW
def keyW (q : At) : List Str := q.1 :: wordsS q.2
def keyA (q : At) : Str := Txt.join (Str.ofString " ") (keyW q)
theorem wordsS_cons (t : D) (ts : List D) : wordsS (t :: ts) = wordsT t ++ wordsS ts := by
  unfold wordsS wordsT
  rw [← List.map_append]; rfl
theorem wordsT_tup (w : Str) (ts : List D) : wordsT (.tup (.str w :: ts)) = w :: wordsS ts := rfl
theorem words_inj {ms : List (Str × Int)} (hd : (ms.map Prod.fst).Nodup) : ∀ (n : Nat) {ts us : List D} {r r' : List Str}, (∀ t ∈ ts, Tm (mkW' ms) noN n t) → (∀ u ∈ us, Gr ms u) → ts.length = us.length → wordsS ts ++ r = wordsS us ++ r' → ts = us ∧ r = r' := by
  have harity : ∀ {w : Str} {a b : Nat}, mkW' ms w a → mkW' ms w b → a = b := fun {w a b} h1 h2 => by
    have e1 := look_mk hd h1
    rw [look_mk hd h2] at e1
    have e1 := Option.some.inj e1
    have := D.int.inj e1
    omega
  intro n
  have step : ∀ (T1 : D → Prop), (∀ {ts us : List D} {r r' : List Str}, (∀ t ∈ ts, T1 t) → (∀ u ∈ us, Gr ms u) → ts.length = us.length → wordsS ts ++ r = wordsS us ++ r' → ts = us ∧ r = r') →
      ∀ {ts us : List D} {r r' : List Str}, (∀ t ∈ ts, ∃ w xs, mkW' ms w xs.length ∧ t = .tup (.str w :: xs) ∧ ∀ x ∈ xs, T1 x) → (∀ u ∈ us, Gr ms u) → ts.length = us.length → wordsS ts ++ r = wordsS us ++ r' → ts = us ∧ r = r' := by
    intro T1 ih ts
    induction ts with
    | nil =>
      intro us r r' _ _ hl e
      cases us with
      | nil => exact ⟨rfl, e⟩
      | cons u us => simp at hl
    | cons t ts iht =>
      intro us r r' ht hu hl e
      cases us with
      | nil => simp at hl
      | cons u us =>
        obtain ⟨w, xs, h1, rfl, h3⟩ := ht t (by simp)
        obtain ⟨w', ys, k1, rfl, k3⟩ := (hu u (by simp)).split
        rw [wordsS_cons, wordsS_cons, wordsT_tup, wordsT_tup, List.append_assoc, List.append_assoc] at e
        obtain ⟨e1, e2⟩ := List.cons.inj e
        subst e1
        obtain ⟨e3, e4⟩ := ih h3 k3 (harity h1 k1) e2
        subst e3
        obtain ⟨e5, e6⟩ := iht (fun x hx => ht x (List.mem_cons_of_mem _ hx)) (fun x hx => hu x (List.mem_cons_of_mem _ hx)) (by simpa using hl) e4
        rw [e5, e6]; exact ⟨rfl, rfl⟩
  induction n with
  | zero =>
    intro ts us r r' ht hu hl e
    refine step (fun _ => False) (fun {ts us r r'} h1 h2 h3 h4 => ?_) (fun t htm => ?_) hu hl e
    · cases ts with
      | nil =>
        cases us with
        | nil => exact ⟨rfl, h4⟩
        | cons u us => simp at h3
      | cons t ts => exact (h1 t (by simp)).elim
    · rcases ht t htm with ⟨x, hx, _⟩ | ⟨w, h1, h2⟩
      · exact hx.elim
      · exact ⟨w, [], h1, h2, fun x hx => by cases hx⟩
  | succ n ih =>
    intro ts us r r' ht hu hl e
    refine step (Tm (mkW' ms) noN n) (fun h1 h2 h3 h4 => ih h1 h2 h3 h4) (fun t htm => ?_) hu hl e
    rcases ht t htm with ⟨x, hx, _⟩ | ⟨w, ts, h1, h2, h3⟩
    · exact hx.elim
    · exact ⟨w, ts, h1, h2, h3⟩
theorem join_tl (zs : List Str) : (Txt.join (Str.ofString " ") zs).cps.toList = TL.joinL [32] (zs.map fun z => z.cps.toList) := by
  have e := TL.tl_join (Str.ofString " ") zs
  have e0 : TL.tl (Str.ofString " ") = [32] := by decide
  rw [e0] at e
  rw [show Txt.join (Str.ofString " ") zs = Str.join (Str.ofString " ") zs from StrLaws.glued_eq_join _ _]
  exact e
theorem join_inj {xs ys : List Str} (hx : xs ≠ []) (hy : ys ≠ []) (h1 : ∀ x ∈ xs, 32 ∉ x.cps.toList) (h2 : ∀ y ∈ ys, 32 ∉ y.cps.toList) (h : Txt.join (Str.ofString " ") xs = Txt.join (Str.ofString " ") ys) : xs = ys := by
  have e := congrArg (fun z : Str => z.cps.toList) h
  simp only [join_tl] at e
  have k1 := TL.spl_join (s := 32) (S := []) (parts := xs.map fun z => z.cps.toList) (by simpa using hx) fun p hp => by
    obtain ⟨x, hx, rfl⟩ := List.mem_map.mp hp
    exact h1 x hx
  have k2 := TL.spl_join (s := 32) (S := []) (parts := ys.map fun z => z.cps.toList) (by simpa using hy) fun p hp => by
    obtain ⟨x, hx, rfl⟩ := List.mem_map.mp hp
    exact h2 x hx
  rw [e, k2] at k1
  clear e k2 h h1 h2 hx hy
  induction xs generalizing ys with
  | nil =>
    cases ys with
    | nil => rfl
    | cons y ys => simp at k1
  | cons x xs ih =>
    cases ys with
    | nil => simp at k1
    | cons y ys =>
      simp only [List.map_cons, List.cons.injEq] at k1
      rw [str_ext k1.1.symm, ih k1.2]
theorem nm_blank {x : Str} (h : isNm x = true) : 32 ∉ x.cps.toList := fun hc => by
  unfold isNm at h
  simp only [Bool.and_eq_true] at h
  have := List.all_eq_true.mp h.2 32 hc
  revert this
  decide +kernel
theorem headW_nm {ms : List (Str × Int)} (hm : ∀ m ∈ ms, isNm m.1 = true) {t : D} (h : Gr ms t) : isNm (headW t) = true := by
  obtain ⟨w, ts, h1, rfl, _⟩ := h.split
  exact hm _ h1
theorem keyW_nm {ms : List (Str × Int)} {ss : List Say} (bk : Bk ms ss) {B : Nat} {q : At} {s : Say} (h : AV ms ss B q s) : ∀ x ∈ keyW q, isNm x = true := fun x hx => by
  rcases List.mem_cons.mp hx with rfl | hx
  · have e : s.name = q.1 := by
      have := List.find?_some h.fnd
      simpa using this
    rw [← e]; exact bk.sn s h.mem
  · obtain ⟨d, hd, rfl⟩ := List.mem_map.mp hx
    obtain ⟨u, h1, h2⟩ := preS_sub' hd
    exact headW_nm bk.mn ((h.gr u h1).part h2)
theorem key_inj {ms : List (Str × Int)} {ss : List Say} (bk : Bk ms ss) {B B' : Nat} {q q' : At} {s s' : Say} (h : AV ms ss B q s) (h' : AV ms ss B' q' s') (e : keyA q = keyA q') : q = q' := by
  have e1 := join_inj (xs := keyW q) (ys := keyW q') (by simp [keyW]) (by simp [keyW]) (fun x hx => nm_blank (keyW_nm bk h x hx)) (fun x hx => nm_blank (keyW_nm bk h' x hx)) e
  obtain ⟨e2, e3⟩ := List.cons.inj e1
  have es : s = s' := by
    have f1 := h.fnd
    rw [e2, h'.fnd] at f1
    exact (Option.some.inj f1).symm
  subst es
  have hl : q.2.length = q'.2.length := by rw [h.len, h'.len]
  have e4 : wordsS q.2 ++ [] = wordsS q'.2 ++ [] := by rw [List.append_nil, List.append_nil]; exact e3
  have := (words_inj bk.md B (fun t ht => (h.gr t ht).tm (h.sz t ht)) h'.gr hl e4).1
  exact Prod.ext e2 this
/-! ### shapes of whys -/
def wy : Nat → D → Prop
  | 0, d => d = .non
  | n + 1, d => d = .non ∨ ∃ (i : Nat) (ws : List D), d = .tup [.int (i : Nat), .tup ws] ∧ ws.length ≤ 2 ∧ ∀ w ∈ ws, wy n w ∧ w ≠ .non
theorem firstR_cases {rc : At → D} {ths : List D} : ∀ {i : Nat} {rs : List Rl}, firstR rc ths i rs = .non ∨ ∃ (j : Nat) (r : Rl) (ps : List (Str × D)), rs[j]? = some r ∧ matchR r.1 ths = some ps ∧ D.non ∉ whsR rc ps r ∧ firstR rc ths i rs = .tup [.int ((i + j : Nat) : Int), .tup (whsR rc ps r)]
  | _, [] => .inl rfl
  | i, r :: rs => by
    have ih := firstR_cases (rc := rc) (ths := ths) (i := i + 1) (rs := rs)
    have next : firstR rc ths i (r :: rs) = firstR rc ths (i + 1) rs → firstR rc ths i (r :: rs) = .non ∨ ∃ (j : Nat) (r' : Rl) (ps : List (Str × D)), (r :: rs)[j]? = some r' ∧ matchR r'.1 ths = some ps ∧ D.non ∉ whsR rc ps r' ∧ firstR rc ths i (r :: rs) = .tup [.int ((i + j : Nat) : Int), .tup (whsR rc ps r')] := fun e => by
      rw [e]
      rcases ih with h | ⟨j, r', ps, h1, h2, h3, h4⟩
      · exact .inl h
      · exact .inr ⟨j + 1, r', ps, by simpa using h1, h2, h3, by rw [h4, show i + 1 + j = i + (j + 1) by omega]⟩
    cases e : matchR r.1 ths with
    | none => exact next (by rw [firstR, e])
    | some ps =>
      by_cases h : D.non ∈ whsR rc ps r
      · exact next (by rw [firstR, e]; simp only; rw [if_pos h])
      · exact .inr ⟨0, r, ps, rfl, e, h, by rw [firstR, e]; simp only; rw [if_neg h]; rfl⟩
theorem whyF_wy {ms : List (Str × Int)} {ss : List Say} (bk : Bk ms ss) : ∀ (n : Nat) (q : At), wy n (whyF ss n q)
  | 0, _ => rfl
  | n + 1, q => by
    unfold whyF
    cases e : findS ss q.1 with
    | none => exact .inl rfl
    | some s =>
      rcases firstR_cases (rc := whyF ss n) (ths := q.2) (i := 0) (rs := s.rules) with h | ⟨j, r, ps, h1, h2, h3, h4⟩
      · exact .inl h
      · refine .inr ⟨_, _, h4, ?_, fun w hw => ⟨?_, fun z => h3 (z ▸ hw)⟩⟩
        · have hs : s ∈ ss := List.mem_of_find?_eq_some e
          have := ((bk.sr s hs).2 r (List.mem_of_getElem? h1)).2.1
          unfold whsR
          rw [List.length_map]; exact this
        · obtain ⟨nd, _, rfl⟩ := List.mem_map.mp hw
          exact whyF_wy bk n _
theorem wy.up : ∀ {n : Nat} {d : D}, wy n d → wy (n + 1) d
  | 0, d, h => .inl h
  | n + 1, d, h => by
    rcases h with h | ⟨i, ws, h1, h2, h3⟩
    · exact .inl h
    · exact .inr ⟨i, ws, h1, h2, fun w hw => ⟨(h3 w hw).1.up, (h3 w hw).2⟩⟩
theorem wy.le {n m : Nat} {d : D} (h : wy n d) (hm : n ≤ m) : wy m d := by
  induction hm with
  | refl => exact h
  | step _ ih => exact ih.up
theorem whyW_wy {ms : List (Str × Int)} {ss : List Say} (bk : Bk ms ss) {B : Nat} {q : At} {s : Say} (h : AV ms ss B q s) {n : Nat} (hn : muS ss q ≤ n) (hn2 : n ≤ 100) : wy n (whyW ss q) := by
  unfold whyW
  rw [why_fuel bk n h hn 100 hn2]
  exact whyF_wy bk n q
theorem wy.plain : ∀ {n : Nat} {d : D}, wy n d → plainD d = true
  | 0, d, h => by rw [show d = .non from h]; rfl
  | n + 1, d, h => by
    rcases h with rfl | ⟨i, ws, rfl, h2, h3⟩
    · rfl
    · show (true && (plainDs ws && true)) = true
      rw [Bool.true_and, Bool.and_true]
      exact plainDs_iff.mpr fun w hw => (h3 w hw).1.plain
theorem wy.depth : ∀ {n : Nat} {d : D}, wy n d → d.py.depth ≤ 2 * n
  | 0, d, h => by rw [show d = .non from h]; exact Nat.le_refl _
  | n + 1, d, h => by
    rcases h with rfl | ⟨i, ws, rfl, h2, h3⟩
    · exact Nat.zero_le _
    · have h4 : PyData.depthAll (D.pys ws) ≤ 2 * n := depths_le fun w hw => (h3 w hw).1.depth
      show (max 0 (max (PyData.depthAll (D.pys ws) + 1) 0)) + 1 ≤ 2 * (n + 1)
      omega
theorem wy.eqvN {n : Nat} {d : D} (h : wy n d) : PyData.eqv d.py .none = decide (d = .non) := by
  cases n with
  | zero => rw [show d = .non from h]; rfl
  | succ n =>
    rcases h with rfl | ⟨i, ws, rfl, h2, h3⟩
    · rfl
    · rfl
theorem nmem_non {n : Nat} {ds : List D} {a : Nat} {S : Sto} {B : Bool → Prop} (hw : ∀ d ∈ ds, wy n d) (ha : S a = some (.lst ds)) (h : B (!decide (D.non ∈ ds))) : cmpM .nmem .non (.ref a) S B := by
  show (match S a with
    | some (.lst ds) => memM.memF .non ds S fun b => B (!b)
    | some (.rol ds) => memM.memF .non ds S fun b => B (!b)
    | some (.dct t kvs) => isKey t .non = true ∧ B (!(lookD kvs .non).isSome)
    | _ => False)
  rw [ha]
  show memM.memF .non ds S fun b => B (!b)
  unfold memM.memF
  have e1 : ∀ ds : List D, (∀ d ∈ ds, wy n d) → ((D.pys ds).any fun z => PyData.eqv z .none) = decide (D.non ∈ ds) := fun ds => by
    induction ds with
    | nil => exact fun _ => rfl
    | cons d ds ih =>
      intro hw
      show (PyData.eqv d.py .none || (D.pys ds).any fun z => PyData.eqv z .none) = _
      rw [(hw d (by simp)).eqvN, ih fun x hx => hw x (by simp [hx])]
      by_cases e : d = .non
      · subst e; simp
      · have : ¬ D.non = d := fun z => e z.symm
        simp [e, this]
  cases hf : flatD .non && ds.all flatD with
  | true =>
    show B (!(ds.any fun y => eqF y .non))
    have e2 : (ds.any fun y => eqF y .non) = decide (D.non ∈ ds) := by
      rw [Bool.and_eq_true] at hf
      obtain ⟨_, hf⟩ := hf
      clear h ha e1
      induction ds with
      | nil => rfl
      | cons d ds ih =>
        rw [List.all_cons, Bool.and_eq_true] at hf
        show (eqF d .non || ds.any fun y => eqF y .non) = _
        rw [ih (fun x hx => hw x (by simp [hx])) hf.2]
        have hd : d = .non := by
          have h0 := hw d (by simp)
          cases n with
          | zero => exact h0
          | succ n =>
            rcases h0 with h0 | ⟨i, ws, rfl, _⟩
            · exact h0
            · exact absurd hf.1 (by simp [flatD])
        subst hd
        simp [eqF]
    rw [e2]; exact h
  | false =>
    show (match pyv S .non, D.pyWs (pyA S 16) ds with
      | some d, some es => (PyData.depthAll es ≤ 63 ∨ d.depth ≤ 63) ∧ B (!(es.any fun z => PyData.eqv z d))
      | _, _ => False)
    rw [pyv_plain (d := .non) rfl, pyWs_plain _ ds (plainDs_iff.mpr fun d hd => (hw d hd).plain)]
    refine ⟨.inr (by decide), ?_⟩
    rw [show (D.non).py = .none from rfl, e1 ds hw]; exact h
/-- how many atoms are gone into -/
def cN : Nat → Nat
  | 0 => 0
  | n + 1 => 1 + 8 * cN n
theorem cN_mono : ∀ {n m : Nat}, n ≤ m → cN n ≤ cN m
  | n, m, h => by
    induction h with
    | refl => exact Nat.le_refl _
    | step _ ih => exact Nat.le_trans ih (by show _ ≤ 1 + 8 * cN _; omega)
theorem look_put (kvs : List (D × D)) (k v x : D) : lookD (putD kvs k v) x = if k = x then some v else lookD kvs x := by
  have h1 : ∀ kvs : List (D × D), k ≠ x → lookD (kvs.map fun kv => if kv.1 = k then (kv.1, v) else kv) x = lookD kvs x := fun kvs hx => by
    induction kvs with
    | nil => rfl
    | cons q r ih =>
      rw [List.map_cons]
      by_cases e : q.1 = k
      · rw [if_pos e]
        show (if q.1 = x then some v else lookD (r.map _) x) = (if q.1 = x then some q.2 else lookD r x)
        rw [if_neg (fun z => hx (e.symm.trans z)), if_neg (fun z => hx (e.symm.trans z)), ih]
      · rw [if_neg e]
        show (if q.1 = x then some q.2 else lookD (r.map _) x) = (if q.1 = x then some q.2 else lookD r x)
        rw [ih]
  have h2 : ∀ kvs : List (D × D), (kvs.any fun kv => decide (kv.1 = k)) = true → lookD (kvs.map fun kv => if kv.1 = k then (kv.1, v) else kv) k = some v := fun kvs => by
    induction kvs with
    | nil => intro h; cases h
    | cons q r ih =>
      intro h
      rw [List.map_cons]
      by_cases e : q.1 = k
      · rw [if_pos e]
        show (if q.1 = k then some v else _) = _
        rw [if_pos e]
      · rw [if_neg e]
        show (if q.1 = k then some q.2 else lookD (r.map _) k) = _
        rw [if_neg e]
        refine ih ?_
        rw [List.any_cons, decide_eq_false e, Bool.false_or] at h
        exact h
  unfold putD
  by_cases ha : (kvs.any fun kv => decide (kv.1 = k)) = true
  · rw [if_pos ha]
    by_cases e : k = x
    · rw [if_pos e, ← e]; exact h2 kvs ha
    · rw [if_neg e]; exact h1 kvs e
  · rw [if_neg ha, lookD_append]
    by_cases e : k = x
    · subst e
      rw [if_pos rfl]
      have : lookD kvs k = none := by
        clear h1 h2
        induction kvs with
        | nil => rfl
        | cons q r ih =>
          rw [List.any_cons, Bool.or_eq_true, not_or] at ha
          show (if q.1 = k then some q.2 else lookD r k) = none
          rw [if_neg (by simpa using ha.1)]
          exact ih ha.2
      rw [this]
      simp
    · rw [if_neg e]
      cases lookD kvs x <;> simp [e]
theorem putD_len {kvs : List (D × D)} {k v : D} : (putD kvs k v).length ≤ kvs.length + 1 ∧ kvs.length ≤ (putD kvs k v).length := by
  unfold putD
  split
  · rw [List.length_map]; omega
  · rw [List.length_append]; simp
end Lr

set_option maxHeartbeats 4000000
namespace Lr.K57
open PySem PySem.Spec PyProof.Rows L2
/-mac-/
local macro_rules | `(tactic| walk_at "stk") => `(tactic| first | with_reducible assumption | with_reducible exact Sto.put_same | (rw [Sto.put_ne (by walk_at "stne")]; walk_at "stk"))
local macro_rules | `(tactic| walk_at "stne") => `(tactic| first | with_reducible assumption | with_reducible exact ne_put (by with_reducible assumption) | with_reducible exact (ne_put (by with_reducible assumption)).symm | with_reducible exact ne_put (put_none (by with_reducible assumption)) | with_reducible exact (ne_put (put_none (by with_reducible assumption))).symm | with_reducible exact ne_put (put_none (put_none (by with_reducible assumption))) | with_reducible exact (ne_put (put_none (put_none (by with_reducible assumption)))).symm | with_reducible exact ne_put (put_none (put_none (put_none (by with_reducible assumption)))) | with_reducible exact (ne_put (put_none (put_none (put_none (by with_reducible assumption))))).symm | with_reducible exact ne_put (put_none (put_none (put_none (put_none (by with_reducible assumption))))) | with_reducible exact (ne_put (put_none (put_none (put_none (put_none (by with_reducible assumption)))))).symm | with_reducible exact ne_put (put_none (put_none (put_none (put_none (put_none (by with_reducible assumption)))))) | with_reducible exact (ne_put (put_none (put_none (put_none (put_none (put_none (by with_reducible assumption))))))).symm | with_reducible exact ne_f (by with_reducible assumption) (by with_reducible assumption) | with_reducible exact (ne_f (by with_reducible assumption) (by with_reducible assumption)).symm | with_reducible exact ne_f (put_none (by with_reducible assumption)) (by with_reducible assumption) | with_reducible exact (ne_f (put_none (by with_reducible assumption)) (by with_reducible assumption)).symm | with_reducible exact ne_f (put_none (put_none (by with_reducible assumption))) (by with_reducible assumption) | with_reducible exact (ne_f (put_none (put_none (by with_reducible assumption))) (by with_reducible assumption)).symm | with_reducible exact ne_f (put_none (put_none (put_none (by with_reducible assumption)))) (by with_reducible assumption) | with_reducible exact (ne_f (put_none (put_none (put_none (by with_reducible assumption)))) (by with_reducible assumption)).symm | with_reducible exact ne_f (put_none (put_none (put_none (put_none (by with_reducible assumption))))) (by with_reducible assumption) | with_reducible exact (ne_f (put_none (put_none (put_none (put_none (by with_reducible assumption))))) (by with_reducible assumption)).symm | with_reducible exact ne_f (put_none (put_none (put_none (put_none (put_none (by with_reducible assumption)))))) (by with_reducible assumption) | with_reducible exact (ne_f (put_none (put_none (put_none (put_none (put_none (by with_reducible assumption)))))) (by with_reducible assumption)).symm)
local macro_rules | `(tactic| walk_at "stn") => `(tactic| first | with_reducible assumption | (rw [Sto.put_ne (by walk_at "stne")]; walk_at "stn") | with_reducible exact put_none (by with_reducible assumption) | with_reducible exact put_none (put_none (by with_reducible assumption)) | with_reducible exact put_none (put_none (put_none (by with_reducible assumption))) | with_reducible exact put_none (put_none (put_none (put_none (by with_reducible assumption)))) | with_reducible exact put_none (put_none (put_none (put_none (put_none (by with_reducible assumption))))) | with_reducible exact put_none (put_none (put_none (put_none (put_none (put_none (by with_reducible assumption)))))))
local macro_rules | `(tactic| walk_at "absT") => `(tactic| first | with_reducible exact Abs.refl _ | with_reducible assumption | ((with_reducible refine Abs.put2r ?_); walk_at "absT") | ((with_reducible refine Abs.tput ?_ ?_); (focus walk_at "stn"); walk_at "absT"))
local macro_rules | `(tactic| walk_at "dsc") => `(tactic| first | walk_at "stk" | walk_at "stne" | exact rfl | decide)
/-end mac-/
def top (i : Nat) : Stmt := PySem.Challenge.pw_leanround_k57_terms_and_claims_as_texts.main.body.getD i (.Pass ⟨0, 0, 0, 0⟩)
def F_law_b0 : Sts :=
  (.cons (.set (.nm 2) (.cal "_law_box" (.cons (.var 0) (.cons (.var 7) .nil))))
   (.cons (.set (.tp (.cons (.nm 3) (.cons (.nm 4) .nil))) (.tup (.cons (.cal "_law_take" (.cons (.var 2) (.cons (.int 8) .nil))) (.cons (.cal "_law_wide_names" (.cons (.var 2) .nil)) .nil))))
   (.cons (.set (.nm 5) (.cal "_law_wide_claim" (.cons (.var 2) (.cons (.var 4) .nil))))
   (.cons (.iff (.cmp .eq (.var 3) (.int 0))
    (.cons (.set (.nm 6) (.lc (.cal "_law_wide_atom" (.cons (.var 2) (.cons (.var 4) .nil))) (.nm 8) (.rng (.cons (.int 9) .nil)) .nil [8]))
    (.cons (.set (.nm 5) (.tup (.cons (.blt .tuple (.cons (.sli (.var 6) .no (.so (.int 5))) .nil)) (.cons (.blt .tuple (.cons (.sli (.var 6) (.so (.int 5)) .no) .nil)) .nil))))
    .nil))
    .nil)
   (.cons (.exp (.bm .append (.var 1) (.cons (.tup (.cons (.cal "_law_wide_term" (.cons (.var 2) (.cons (.var 4) (.cons (.int 20) (.cons (.int 8) .nil))))) (.cons (.var 5) .nil))) .nil)))
   .nil)))))
def F_law : Sts :=
  (.cons (.set (.nm 1) (.lst .nil))
  (.cons (.for_ (.nm 7) (.rng (.cons (.blt .max2 (.cons (.int 1) (.cons (.blt .min2 (.cons (.int 5) (.cons (.blt .len (.cons (.var 0) .nil)) .nil))) .nil))) .nil))
   F_law_b0)
  (.cons (.ret (.blt .all (.cons (.lc (.cal "_law_right" (.cons (.var 9) (.cons (.var 5) .nil))) (.tp (.cons (.nm 9) (.cons (.nm 5) .nil))) (.seq (.bin .add (.var 1) (.sli (.var 1) .no (.so (.int 1))))) .nil [9, 5]) .nil)))
  .nil)))
def E_law : Ent := ⟨"law", .pl, ⟨(Str.ofString "law", none), Str.ofString "law", Str.ofString "law", defArgs (top 38), defBody (top 38), defScope (top 38), [], []⟩, [Str.ofString "_law_script", Str.ofString "_law_asked", Str.ofString "_law_box_here", Str.ofString "_law_great", Str.ofString "_law_names", Str.ofString "_law_claim", Str.ofString "_law_atoms", Str.ofString "_law_k", Str.ofString "_law_turn", Str.ofString "_law_term"], [Str.ofString "_law_script"], F_law, [], none⟩
def F__law_right : Sts :=
  (.cons (.set (.nm 2) (.bm .join (.str " ") (.cons (.cal "_law_term_words" (.cons (.var 0) .nil)) .nil)))
  (.cons (.iff (.bop false (.cons (.not (.tru (.cal "_law_alike" (.cons (.cal "term_text" (.cons (.var 0) .nil)) (.cons (.var 2) .nil))))) (.cons (.not (.tru (.cal "_law_alike" (.cons (.cal "read_term" (.cons (.var 2) .nil)) (.cons (.var 0) .nil))))) .nil)))
   (.cons (.ret (.bl false))
   .nil)
   .nil)
  (.cons (.set (.nm 2) (.bm .join (.str " ") (.cons (.cal "_law_claim_words" (.cons (.var 1) .nil)) .nil)))
  (.cons (.ret (.bop true (.cons (.cal "_law_alike" (.cons (.cal "claim_text" (.cons (.var 1) .nil)) (.cons (.var 2) .nil))) (.cons (.cal "_law_alike" (.cons (.cal "read_claim" (.cons (.var 2) .nil)) (.cons (.var 1) .nil))) .nil))))
  .nil))))
def E__law_right : Ent := ⟨"_law_right", .pl, ⟨(Str.ofString "_law_right", none), Str.ofString "_law_right", Str.ofString "_law_right", defArgs (top 37), defBody (top 37), defScope (top 37), [], []⟩, [Str.ofString "_law_term", Str.ofString "_law_claim", Str.ofString "_law_text"], [Str.ofString "_law_term", Str.ofString "_law_claim"], F__law_right, [], none⟩
def F__law_wide_term : Sts :=
  (.cons (.iff (.bop false (.cons (.cmp .lt (.var 2) (.int 2)) (.cons (.cmp .lt (.var 3) (.int 1)) (.cons (.cmp .eq (.cal "_law_take" (.cons (.var 0) (.cons (.int 3) .nil))) (.int 0)) .nil))))
   (.cons (.ret (.idx (.var 1) (.cal "_law_take" (.cons (.var 0) (.cons (.blt .len (.cons (.var 1) .nil)) .nil)))))
   .nil)
   .nil)
  (.cons (.set (.tp (.cons (.nm 4) (.cons (.nm 5) .nil))) (.tup (.cons (.bin .sub (.var 2) (.int 1)) (.cons (.lst .nil) .nil))))
  (.cons (.for_ (.nm 7) (.rng (.cons (.cal "_law_take" (.cons (.var 0) (.cons (.int 4) .nil))) .nil))
   (.cons (.iff (.cmp .gt (.var 4) (.int 0))
    (.cons (.set (.nm 6) (.bin .add (.int 1) (.cal "_law_take" (.cons (.var 0) (.cons (.var 4) .nil)))))
    (.cons (.exp (.bm .append (.var 5) (.cons (.cal "_law_wide_term" (.cons (.var 0) (.cons (.var 1) (.cons (.var 6) (.cons (.bin .sub (.var 3) (.int 1)) .nil))))) .nil)))
    (.cons (.set (.nm 4) (.bin .sub (.var 4) (.var 6)))
    .nil)))
    .nil)
   .nil))
  (.cons (.ret (.bin .add (.tup (.cons (.cal "_law_wide_name" (.cons (.var 0) .nil)) .nil)) (.blt .tuple (.cons (.var 5) .nil))))
  .nil))))
def E__law_wide_term : Ent := ⟨"_law_wide_term", .pl, ⟨(Str.ofString "_law_wide_term", none), Str.ofString "_law_wide_term", Str.ofString "_law_wide_term", defArgs (top 33), defBody (top 33), defScope (top 33), [], []⟩, [Str.ofString "_law_box_here", Str.ofString "_law_names", Str.ofString "_law_room", Str.ofString "_law_down", Str.ofString "_law_left", Str.ofString "_law_terms", Str.ofString "_law_wide", Str.ofString "_law_k"], [Str.ofString "_law_box_here", Str.ofString "_law_names", Str.ofString "_law_room", Str.ofString "_law_down"], F__law_wide_term, [], none⟩
def F__law_wide_atom : Sts :=
  (.cons (.ret (.tup (.cons (.cal "_law_wide_name" (.cons (.var 0) .nil)) (.cons (.cal "_law_wide_terms" (.cons (.var 0) (.cons (.var 1) (.cons (.int 3) .nil)))) .nil))))
  .nil)
def E__law_wide_atom : Ent := ⟨"_law_wide_atom", .pl, ⟨(Str.ofString "_law_wide_atom", none), Str.ofString "_law_wide_atom", Str.ofString "_law_wide_atom", defArgs (top 35), defBody (top 35), defScope (top 35), [], []⟩, [Str.ofString "_law_box_here", Str.ofString "_law_names"], [Str.ofString "_law_box_here", Str.ofString "_law_names"], F__law_wide_atom, [], none⟩
def F__law_wide_claim : Sts :=
  (.cons (.set (.nm 2) (.lc (.cal "_law_wide_atom" (.cons (.var 0) (.cons (.var 1) .nil))) (.nm 3) (.rng (.cons (.cal "_law_take" (.cons (.var 0) (.cons (.int 4) .nil))) .nil)) .nil [3]))
  (.cons (.ret (.tup (.cons (.blt .tuple (.cons (.var 2) .nil)) (.cons (.blt .tuple (.cons (.lc (.cal "_law_wide_atom" (.cons (.var 0) (.cons (.var 1) .nil))) (.nm 3) (.rng (.cons (.bin .add (.int 1) (.cal "_law_take" (.cons (.var 0) (.cons (.int 3) .nil)))) .nil)) .nil [3]) .nil)) .nil))))
  .nil))
def E__law_wide_claim : Ent := ⟨"_law_wide_claim", .pl, ⟨(Str.ofString "_law_wide_claim", none), Str.ofString "_law_wide_claim", Str.ofString "_law_wide_claim", defArgs (top 36), defBody (top 36), defScope (top 36), [], []⟩, [Str.ofString "_law_box_here", Str.ofString "_law_names", Str.ofString "_law_left", Str.ofString "_law_k"], [Str.ofString "_law_box_here", Str.ofString "_law_names"], F__law_wide_claim, [], none⟩
def F__law_wide_names : Sts :=
  (.cons (.set (.nm 1) (.dnew false))
  (.cons (.for_ (.nm 2) (.rng (.cons (.bin .add (.int 1) (.cal "_law_take" (.cons (.var 0) (.cons (.int 6) .nil)))) .nil))
   (.cons (.set (.ix (.var 1) (.cal "_law_wide_name" (.cons (.var 0) .nil))) (.bl true))
   .nil))
  (.cons (.ret (.blt .list (.cons (.var 1) .nil)))
  .nil)))
def E__law_wide_names : Ent := ⟨"_law_wide_names", .pl, ⟨(Str.ofString "_law_wide_names", none), Str.ofString "_law_wide_names", Str.ofString "_law_wide_names", defArgs (top 31), defBody (top 31), defScope (top 31), [], []⟩, [Str.ofString "_law_box_here", Str.ofString "_law_found", Str.ofString "_law_k"], [Str.ofString "_law_box_here"], F__law_wide_names, [], none⟩
def F__law_take : Sts :=
  (.cons (.iff (.cmp .gt (.idx (.var 0) (.int 0)) (.int 0))
   (.cons (.set (.nm 2) (.bin .mod (.idx (.var 0) (.int 0)) (.var 1)))
   (.cons (.set (.ix (.var 0) (.int 0)) (.bin .fdiv (.idx (.var 0) (.int 0)) (.var 1)))
   (.cons (.ret (.var 2))
   .nil)))
   .nil)
  (.cons (.set (.ix (.var 0) (.int 2)) (.bin .add (.idx (.var 0) (.int 2)) (.int 1)))
  (.cons (.set (.nm 3) (.bin .mod (.bin .mul (.bin .add (.idx (.var 0) (.int 1)) (.bin .mul (.int 104729) (.idx (.var 0) (.int 2)))) (.int 69623)) (.int 2147483647)))
  (.cons (.set (.ix (.var 0) (.int 1)) (.bin .add (.bin .mod (.bin .add (.bin .mul (.var 3) (.int 48271)) (.int 30103)) (.int 2147483629)) (.int 1)))
  (.cons (.ret (.bin .mod (.bin .fdiv (.bin .add (.bin .mul (.var 3) (.int 2147483647)) (.idx (.var 0) (.int 1))) (.int 8191)) (.var 1)))
  .nil)))))
def E__law_take : Ent := ⟨"_law_take", .pl, ⟨(Str.ofString "_law_take", none), Str.ofString "_law_take", Str.ofString "_law_take", defArgs (top 25), defBody (top 25), defScope (top 25), [], []⟩, [Str.ofString "_law_box_here", Str.ofString "_law_many", Str.ofString "_law_digit", Str.ofString "_law_one"], [Str.ofString "_law_box_here", Str.ofString "_law_many"], F__law_take, [], none⟩
def F__law_box : Sts :=
  (.cons (.set (.nm 2) (.bin .add (.bin .mul (.int 6151) (.var 1)) (.int 29)))
  (.cons (.iff (.cmp .lt (.var 1) (.blt .len (.cons (.var 0) .nil)))
   (.cons (.set (.nm 2) (.blt .max2 (.cons (.idx (.var 0) (.var 1)) (.cons (.bin .sub (.int 0) (.idx (.var 0) (.var 1))) .nil))))
   .nil)
   (.cons (.iff (.cmp .gt (.blt .len (.cons (.var 0) .nil)) (.int 0))
    (.cons (.set (.nm 2) (.bin .add (.var 2) (.bin .mul (.bin .mod (.idx (.var 0) (.bin .mod (.var 1) (.blt .len (.cons (.var 0) .nil)))) (.int 2147483629)) (.int 69623))))
    .nil)
    .nil)
   .nil))
  (.cons (.set (.nm 3) (.bin .add (.bin .mod (.bin .add (.bin .add (.bin .mul (.bin .mod (.var 2) (.int 2147483629)) (.int 48271)) (.bin .mul (.int 40692) (.var 1))) (.int 7)) (.int 2147483629)) (.int 1)))
  (.cons (.ret (.lst (.cons (.idx (.lst (.cons (.int 0) (.cons (.var 2) .nil))) (.blt .int_ (.cons (.cmp .ge (.var 2) (.bin .pow (.int 10) (.int 18))) .nil))) (.cons (.var 3) (.cons (.int 0) .nil)))))
  .nil))))
def E__law_box : Ent := ⟨"_law_box", .pl, ⟨(Str.ofString "_law_box", none), Str.ofString "_law_box", Str.ofString "_law_box", defArgs (top 24), defBody (top 24), defScope (top 24), [], []⟩, [Str.ofString "_law_script", Str.ofString "_law_k", Str.ofString "_law_cell", Str.ofString "_law_seed"], [Str.ofString "_law_script", Str.ofString "_law_k"], F__law_box, [], none⟩
def F__law_alike : Sts :=
  (.cons (.iff (.tru (.blt .isinst (.cons (.var 1) (.cons (.key (.cons (.glb "tuple") (.cons (.glb "list") .nil))) .nil))))
   (.cons (.iff (.bop false (.cons (.cmp .ne (.blt .isinst (.cons (.var 0) (.cons (.glb "tuple") .nil))) (.blt .isinst (.cons (.var 1) (.cons (.glb "tuple") .nil)))) (.cons (.cmp .ne (.blt .isinst (.cons (.var 0) (.cons (.glb "list") .nil))) (.blt .isinst (.cons (.var 1) (.cons (.glb "list") .nil)))) .nil)))
    (.cons (.ret (.bl false))
    .nil)
    .nil)
   (.cons (.ret (.bop true (.cons (.cmp .eq (.blt .len (.cons (.var 0) .nil)) (.blt .len (.cons (.var 1) .nil))) (.cons (.blt .all (.cons (.lc (.cal "_law_alike" (.cons (.var 2) (.cons (.var 3) .nil))) (.tp (.cons (.nm 2) (.cons (.nm 3) .nil))) (.zip (.var 0) (.var 1)) .nil [2, 3]) .nil)) .nil))))
   .nil))
   .nil)
  (.cons (.iff (.tru (.blt .isinst (.cons (.var 1) (.cons (.glb "dict") .nil))))
   (.cons (.ret (.bop true (.cons (.blt .isinst (.cons (.var 0) (.cons (.glb "dict") .nil))) (.cons (.cal "_law_alike" (.cons (.lit (.var 0)) (.cons (.lit (.var 1)) .nil))) .nil))))
   .nil)
   .nil)
  (.cons (.iff (.bop false (.cons (.cmp .ne (.blt .isinst (.cons (.var 0) (.cons (.glb "bool") .nil))) (.blt .isinst (.cons (.var 1) (.cons (.glb "bool") .nil)))) (.cons (.cmp .ne (.blt .isinst (.cons (.var 0) (.cons (.glb "str") .nil))) (.blt .isinst (.cons (.var 1) (.cons (.glb "str") .nil)))) .nil)))
   (.cons (.ret (.bl false))
   .nil)
   .nil)
  (.cons (.ret (.bop true (.cons (.not (.blt .isinst (.cons (.var 0) (.cons (.key (.cons (.glb "tuple") (.cons (.glb "list") (.cons (.glb "dict") .nil)))) .nil)))) (.cons (.cmp .eq (.var 0) (.var 1)) .nil))))
  .nil))))
def E__law_alike : Ent := ⟨"_law_alike", .pl, ⟨(Str.ofString "_law_alike", none), Str.ofString "_law_alike", Str.ofString "_law_alike", defArgs (top 26), defBody (top 26), defScope (top 26), [], []⟩, [Str.ofString "_law_found", Str.ofString "_law_due", Str.ofString "_law_one", Str.ofString "_law_other"], [Str.ofString "_law_found", Str.ofString "_law_due"], F__law_alike, [], none⟩
def F_read_claim : Sts :=
  (.cons (.set (.nm 1) (.cal "claim_in" (.cons (.var 0) .nil)))
  (.cons (.iff (.cmp .is (.var 1) .non)
   (.cons .rse
   .nil)
   .nil)
  (.cons (.ret (.var 1))
  .nil)))
def E_read_claim : Ent := ⟨"read_claim", .pl, ⟨(Str.ofString "read_claim", none), Str.ofString "read_claim", Str.ofString "read_claim", defArgs (top 18), defBody (top 18), defScope (top 18), [], []⟩, [Str.ofString "text", Str.ofString "claim"], [Str.ofString "text"], F_read_claim, [], none⟩
def F_claim_text : Sts :=
  (.cons (.set (.nm 1) (.lc (.bm .join (.str " , ") (.cons (.lc (.cal "atom_text" (.cons (.var 2) .nil)) (.nm 2) (.seq (.var 3)) .nil [2]) .nil)) (.nm 3) (.seq (.var 0)) .nil [3]))
  (.cons (.iff (.cmp .eq (.idx (.var 1) (.int 0)) (.str ""))
   (.cons (.ret (.bin .add (.str "=> ") (.idx (.var 1) (.int 1))))
   .nil)
   .nil)
  (.cons (.ret (.bm .join (.str " => ") (.cons (.var 1) .nil)))
  .nil)))
def E_claim_text : Ent := ⟨"claim_text", .pl, ⟨(Str.ofString "claim_text", none), Str.ofString "claim_text", Str.ofString "claim_text", defArgs (top 22), defBody (top 22), defScope (top 22), [], []⟩, [Str.ofString "claim", Str.ofString "words", Str.ofString "atom", Str.ofString "side"], [Str.ofString "claim"], F_claim_text, [], none⟩
def F__law_claim_words : Sts :=
  (.cons (.set (.nm 1) (.lst .nil))
  (.cons (.for_ (.nm 4) (.seq (.var 0))
   (.cons (.for_ (.tp (.cons (.nm 2) (.cons (.nm 3) .nil))) (.enu (.var 4))
    (.cons (.exp (.bm .extend (.var 1) (.cons (.bin .add (.bin .mul (.lst (.cons (.str ",") .nil)) (.blt .int_ (.cons (.cmp .gt (.var 2) (.int 0)) .nil))) (.cal "_law_atom_words" (.cons (.var 3) .nil))) .nil)))
    .nil))
   (.cons (.exp (.bm .append (.var 1) (.cons (.str "=>") .nil)))
   .nil)))
  (.cons (.ret (.sli (.var 1) .no (.so (.neg (.int 1)))))
  .nil)))
def E__law_claim_words : Ent := ⟨"_law_claim_words", .pl, ⟨(Str.ofString "_law_claim_words", none), Str.ofString "_law_claim_words", Str.ofString "_law_claim_words", defArgs (top 29), defBody (top 29), defScope (top 29), [], []⟩, [Str.ofString "_law_claim", Str.ofString "_law_found", Str.ofString "_law_k", Str.ofString "_law_atom", Str.ofString "_law_side"], [Str.ofString "_law_claim"], F__law_claim_words, [], none⟩
def F_read_term : Sts :=
  (.cons (.set (.nm 1) (.cal "terms_in" (.cons (.bm .split (.var 0) (.cons (.str " ") .nil)) .nil)))
  (.cons (.iff (.bop false (.cons (.cmp .is (.var 1) .non) (.cons (.cmp .ne (.blt .len (.cons (.var 1) .nil)) (.int 1)) .nil)))
   (.cons .rse
   .nil)
   .nil)
  (.cons (.ret (.idx (.var 1) (.int 0)))
  .nil)))
def E_read_term : Ent := ⟨"read_term", .pl, ⟨(Str.ofString "read_term", none), Str.ofString "read_term", Str.ofString "read_term", defArgs (top 17), defBody (top 17), defScope (top 17), [], []⟩, [Str.ofString "text", Str.ofString "terms"], [Str.ofString "text"], F_read_term, [], none⟩
def F_term_text : Sts :=
  (.cons (.iff (.tru (.blt .isinst (.cons (.var 0) (.cons (.glb "str") .nil))))
   (.cons (.ret (.var 0))
   .nil)
   .nil)
  (.cons (.ret (.bm .join (.str " ") (.cons (.bin .add (.bin .add (.lst (.cons (.str "(") (.cons (.idx (.var 0) (.int 0)) .nil))) (.lc (.cal "term_text" (.cons (.var 1) .nil)) (.nm 1) (.seq (.sli (.var 0) (.so (.int 1)) .no)) .nil [1])) (.lst (.cons (.str ")") .nil))) .nil)))
  .nil))
def E_term_text : Ent := ⟨"term_text", .pl, ⟨(Str.ofString "term_text", none), Str.ofString "term_text", Str.ofString "term_text", defArgs (top 20), defBody (top 20), defScope (top 20), [], []⟩, [Str.ofString "term", Str.ofString "part"], [Str.ofString "term"], F_term_text, [], none⟩
def F__law_term_words : Sts :=
  (.cons (.iff (.tru (.blt .isinst (.cons (.var 0) (.cons (.glb "str") .nil))))
   (.cons (.ret (.lst (.cons (.var 0) .nil)))
   .nil)
   .nil)
  (.cons (.set (.nm 1) (.lst (.cons (.str "(") (.cons (.idx (.var 0) (.int 0)) .nil))))
  (.cons (.for_ (.nm 2) (.seq (.sli (.var 0) (.so (.int 1)) .no))
   (.cons (.exp (.bm .extend (.var 1) (.cons (.cal "_law_term_words" (.cons (.var 2) .nil)) .nil)))
   .nil))
  (.cons (.ret (.bin .add (.var 1) (.lst (.cons (.str ")") .nil))))
  .nil))))
def E__law_term_words : Ent := ⟨"_law_term_words", .pl, ⟨(Str.ofString "_law_term_words", none), Str.ofString "_law_term_words", Str.ofString "_law_term_words", defArgs (top 27), defBody (top 27), defScope (top 27), [], []⟩, [Str.ofString "_law_term", Str.ofString "_law_found", Str.ofString "_law_part"], [Str.ofString "_law_term"], F__law_term_words, [], none⟩
def F__law_wide_name : Sts :=
  (.cons (.set (.nm 1) (.str "abcdefghijklmnopqrstuvwxyz"))
  (.cons (.set (.nm 2) (.lst (.cons (.str "maker") (.cons (.str "saying") (.cons (.str "rule") (.cons (.str "by") (.cons (.str "same") (.cons (.str "cases") (.cons (.str "use") (.cons (.str "fill") (.cons (.str "put") (.cons (.str "with") (.cons (.str "rights") (.cons (.str "again") .nil))))))))))))))
  (.cons (.set (.nm 3) (.bm .join (.str "") (.cons (.lc (.idx (.var 1) (.cal "_law_take" (.cons (.var 0) (.cons (.int 26) .nil)))) (.nm 4) (.rng (.cons (.bin .add (.int 1) (.cal "_law_take" (.cons (.var 0) (.cons (.int 8) .nil)))) .nil)) .nil [4]) .nil)))
  (.cons (.iff (.cmp .eq (.cal "_law_take" (.cons (.var 0) (.cons (.int 4) .nil))) (.int 0))
   (.cons (.set (.nm 3) (.idx (.var 2) (.cal "_law_take" (.cons (.var 0) (.cons (.int 12) .nil)))))
   .nil)
   .nil)
  (.cons (.ret (.idx (.lst (.cons (.var 3) (.cons (.str "tt") .nil))) (.blt .int_ (.cons (.cmp .mem (.var 3) (.tup (.cons (.str "if") (.cons (.str "to") (.cons (.str "lefts") .nil))))) .nil))))
  .nil)))))
def E__law_wide_name : Ent := ⟨"_law_wide_name", .pl, ⟨(Str.ofString "_law_wide_name", none), Str.ofString "_law_wide_name", Str.ofString "_law_wide_name", defArgs (top 30), defBody (top 30), defScope (top 30), [], []⟩, [Str.ofString "_law_box_here", Str.ofString "_law_letters", Str.ofString "_law_some", Str.ofString "_law_name", Str.ofString "_law_k"], [Str.ofString "_law_box_here"], F__law_wide_name, [], none⟩
def F__law_wide_terms : Sts :=
  (.cons (.ret (.blt .tuple (.cons (.lc (.cal "_law_wide_term" (.cons (.var 0) (.cons (.var 1) (.cons (.bin .add (.int 1) (.cal "_law_take" (.cons (.var 0) (.cons (.int 5) .nil)))) (.cons (.int 4) .nil))))) (.nm 3) (.rng (.cons (.bin .add (.int 1) (.cal "_law_take" (.cons (.var 0) (.cons (.var 2) .nil)))) .nil)) .nil [3]) .nil)))
  .nil)
def E__law_wide_terms : Ent := ⟨"_law_wide_terms", .pl, ⟨(Str.ofString "_law_wide_terms", none), Str.ofString "_law_wide_terms", Str.ofString "_law_wide_terms", defArgs (top 34), defBody (top 34), defScope (top 34), [], []⟩, [Str.ofString "_law_box_here", Str.ofString "_law_names", Str.ofString "_law_most", Str.ofString "_law_k"], [Str.ofString "_law_box_here", Str.ofString "_law_names", Str.ofString "_law_most"], F__law_wide_terms, [], none⟩
def F_claim_in : Sts :=
  (.cons (.set (.nm 1) (.cal "parted_at" (.cons (.bm .split (.var 0) (.cons (.str " ") .nil)) (.cons (.str "=>") .nil))))
  (.cons (.iff (.cmp .ne (.blt .len (.cons (.var 1) .nil)) (.int 2))
   (.cons (.ret .non)
   .nil)
   .nil)
  (.cons (.set (.tp (.cons (.nm 2) (.cons (.nm 3) .nil))) (.tup (.cons (.tup .nil) (.cons (.cal "atoms_in" (.cons (.idx (.var 1) (.int 1)) .nil)) .nil))))
  (.cons (.iff (.cmp .ne (.idx (.var 1) (.int 0)) (.lst .nil))
   (.cons (.set (.nm 2) (.cal "atoms_in" (.cons (.idx (.var 1) (.int 0)) .nil)))
   .nil)
   .nil)
  (.cons (.iff (.bop false (.cons (.cmp .is (.var 2) .non) (.cons (.cmp .is (.var 3) .non) .nil)))
   (.cons (.ret .non)
   .nil)
   .nil)
  (.cons (.ret (.tup (.cons (.var 2) (.cons (.var 3) .nil))))
  .nil))))))
def E_claim_in : Ent := ⟨"claim_in", .pl, ⟨(Str.ofString "claim_in", none), Str.ofString "claim_in", Str.ofString "claim_in", defArgs (top 16), defBody (top 16), defScope (top 16), [], []⟩, [Str.ofString "row", Str.ofString "sides", Str.ofString "left", Str.ofString "right"], [Str.ofString "row"], F_claim_in, [], none⟩
def F_atom_text : Sts :=
  (.cons (.ret (.bm .join (.str " ") (.cons (.bin .add (.lst (.cons (.idx (.var 0) (.int 0)) .nil)) (.lc (.cal "term_text" (.cons (.var 1) .nil)) (.nm 1) (.seq (.idx (.var 0) (.int 1))) .nil [1])) .nil)))
  .nil)
def E_atom_text : Ent := ⟨"atom_text", .pl, ⟨(Str.ofString "atom_text", none), Str.ofString "atom_text", Str.ofString "atom_text", defArgs (top 21), defBody (top 21), defScope (top 21), [], []⟩, [Str.ofString "atom", Str.ofString "term"], [Str.ofString "atom"], F_atom_text, [], none⟩
def F__law_atom_words : Sts :=
  (.cons (.set (.nm 1) (.lst (.cons (.idx (.var 0) (.int 0)) .nil)))
  (.cons (.for_ (.nm 2) (.seq (.idx (.var 0) (.int 1)))
   (.cons (.exp (.bm .extend (.var 1) (.cons (.cal "_law_term_words" (.cons (.var 2) .nil)) .nil)))
   .nil))
  (.cons (.ret (.var 1))
  .nil)))
def E__law_atom_words : Ent := ⟨"_law_atom_words", .pl, ⟨(Str.ofString "_law_atom_words", none), Str.ofString "_law_atom_words", Str.ofString "_law_atom_words", defArgs (top 28), defBody (top 28), defScope (top 28), [], []⟩, [Str.ofString "_law_atom", Str.ofString "_law_found", Str.ofString "_law_term"], [Str.ofString "_law_atom"], F__law_atom_words, [], none⟩
def F_terms_in : Sts :=
  (.cons (.set (.nm 1) (.lst .nil))
  (.cons (.set (.nm 2) (.int 0))
  (.cons (.whl (.cmp .lt (.var 2) (.blt .len (.cons (.var 0) .nil)))
   (.cons (.set (.nm 3) (.cal "term_at" (.cons (.var 0) (.cons (.var 2) .nil))))
   (.cons (.iff (.bop false (.cons (.cmp .is (.var 3) .non) (.cons (.cmp .gt (.cal "deep" (.cons (.idx (.var 3) (.int 0)) .nil)) (.glb "MOST_DEEP")) .nil)))
    (.cons (.ret .non)
    .nil)
    .nil)
   (.cons (.exp (.bm .append (.var 1) (.cons (.idx (.var 3) (.int 0)) .nil)))
   (.cons (.set (.nm 2) (.idx (.var 3) (.int 1)))
   .nil)))))
  (.cons (.ret (.blt .tuple (.cons (.var 1) .nil)))
  .nil))))
def E_terms_in : Ent := ⟨"terms_in", .pl, ⟨(Str.ofString "terms_in", none), Str.ofString "terms_in", Str.ofString "terms_in", defArgs (top 12), defBody (top 12), defScope (top 12), [], []⟩, [Str.ofString "words", Str.ofString "found", Str.ofString "at", Str.ofString "told"], [Str.ofString "words"], F_terms_in, [], none⟩
def F_atoms_in : Sts :=
  (.cons (.set (.nm 1) (.lc (.cal "atom_in" (.cons (.var 2) .nil)) (.nm 2) (.seq (.cal "parted_at" (.cons (.var 0) (.cons (.str ",") .nil)))) .nil [2]))
  (.cons (.iff (.cmp .mem .non (.var 1))
   (.cons (.ret .non)
   .nil)
   .nil)
  (.cons (.ret (.blt .tuple (.cons (.var 1) .nil)))
  .nil)))
def E_atoms_in : Ent := ⟨"atoms_in", .pl, ⟨(Str.ofString "atoms_in", none), Str.ofString "atoms_in", Str.ofString "atoms_in", defArgs (top 15), defBody (top 15), defScope (top 15), [], []⟩, [Str.ofString "words", Str.ofString "found", Str.ofString "some"], [Str.ofString "words"], F_atoms_in, [], none⟩
def F_parted_at : Sts :=
  (.cons (.set (.nm 2) (.lst (.cons (.lst .nil) .nil)))
  (.cons (.for_ (.nm 3) (.seq (.var 0))
   (.cons (.iff (.cmp .eq (.var 3) (.var 1))
    (.cons (.exp (.bm .append (.var 2) (.cons (.lst .nil) .nil)))
    .nil)
    (.cons (.exp (.bm .append (.idx (.var 2) (.neg (.int 1))) (.cons (.var 3) .nil)))
    .nil))
   .nil))
  (.cons (.ret (.var 2))
  .nil)))
def E_parted_at : Ent := ⟨"parted_at", .pl, ⟨(Str.ofString "parted_at", none), Str.ofString "parted_at", Str.ofString "parted_at", defArgs (top 14), defBody (top 14), defScope (top 14), [], []⟩, [Str.ofString "words", Str.ofString "mark", Str.ofString "found", Str.ofString "word"], [Str.ofString "words", Str.ofString "mark"], F_parted_at, [], none⟩
def F_deep : Sts :=
  (.cons (.iff (.bop false (.cons (.tru (.blt .isinst (.cons (.var 0) (.cons (.glb "str") .nil)))) (.cons (.cmp .eq (.blt .len (.cons (.var 0) .nil)) (.int 1)) .nil)))
   (.cons (.ret (.int 0))
   .nil)
   .nil)
  (.cons (.ret (.bin .add (.int 1) (.blt .max1 (.cons (.lc (.cal "deep" (.cons (.var 1) .nil)) (.nm 1) (.seq (.sli (.var 0) (.so (.int 1)) .no)) .nil [1]) .nil))))
  .nil))
def E_deep : Ent := ⟨"deep", .pl, ⟨(Str.ofString "deep", none), Str.ofString "deep", Str.ofString "deep", defArgs (top 8), defBody (top 8), defScope (top 8), [], []⟩, [Str.ofString "term", Str.ofString "part"], [Str.ofString "term"], F_deep, [], none⟩
def F_term_at_b0 : Sts :=
  (.cons (.set (.nm 3) (.idx (.var 0) (.var 1)))
   (.cons (.set (.nm 4) .non)
   (.cons (.iff (.cmp .eq (.var 3) (.str "("))
    (.cons (.aug 1 .add (.int 1))
    (.cons (.iff (.bop false (.cons (.cmp .eq (.var 1) (.blt .len (.cons (.var 0) .nil))) (.cons (.not (.tru (.cal "is_name" (.cons (.idx (.var 0) (.var 1)) .nil)))) (.cons (.cmp .gt (.blt .len (.cons (.var 2) .nil)) (.glb "MOST_DEEP")) .nil))))
     (.cons (.ret .non)
     .nil)
     .nil)
    (.cons (.exp (.bm .append (.var 2) (.cons (.lst (.cons (.idx (.var 0) (.var 1)) .nil)) .nil)))
    .nil)))
    (.cons (.iff (.bop true (.cons (.cmp .eq (.var 3) (.str ")")) (.cons (.cmp .gt (.blt .len (.cons (.var 2) .nil)) (.int 0)) .nil)))
     (.cons (.set (.nm 4) (.blt .tuple (.cons (.bm .pop0 (.var 2) .nil) .nil)))
     .nil)
     (.cons (.iff (.tru (.cal "is_name" (.cons (.var 3) .nil)))
      (.cons (.set (.nm 4) (.var 3))
      .nil)
      (.cons (.ret .non)
      .nil))
     .nil))
    .nil))
   (.cons (.aug 1 .add (.int 1))
   (.cons (.iff (.bop true (.cons (.cmp .isn (.var 4) .non) (.cons (.cmp .gt (.blt .len (.cons (.var 2) .nil)) (.int 0)) .nil)))
    (.cons (.exp (.bm .append (.idx (.var 2) (.neg (.int 1))) (.cons (.var 4) .nil)))
    .nil)
    (.cons (.iff (.cmp .isn (.var 4) .non)
     (.cons (.ret (.tup (.cons (.var 4) (.cons (.var 1) .nil))))
     .nil)
     .nil)
    .nil))
   .nil)))))
def F_term_at : Sts :=
  (.cons (.set (.nm 2) (.lst .nil))
  (.cons (.whl (.cmp .lt (.var 1) (.blt .len (.cons (.var 0) .nil)))
   F_term_at_b0)
  (.cons (.ret .non)
  .nil)))
def E_term_at : Ent := ⟨"term_at", .pl, ⟨(Str.ofString "term_at", none), Str.ofString "term_at", Str.ofString "term_at", defArgs (top 11), defBody (top 11), defScope (top 11), [], []⟩, [Str.ofString "words", Str.ofString "at", Str.ofString "made", Str.ofString "word", Str.ofString "done"], [Str.ofString "words", Str.ofString "at"], F_term_at, [], none⟩
def F_atom_in : Sts :=
  (.cons (.iff (.bop false (.cons (.cmp .lt (.blt .len (.cons (.var 0) .nil)) (.int 2)) (.cons (.not (.tru (.cal "is_name" (.cons (.idx (.var 0) (.int 0)) .nil)))) .nil)))
   (.cons (.ret .non)
   .nil)
   .nil)
  (.cons (.set (.nm 1) (.cal "terms_in" (.cons (.sli (.var 0) (.so (.int 1)) .no) .nil)))
  (.cons (.iff (.cmp .is (.var 1) .non)
   (.cons (.ret .non)
   .nil)
   .nil)
  (.cons (.ret (.tup (.cons (.idx (.var 0) (.int 0)) (.cons (.var 1) .nil))))
  .nil))))
def E_atom_in : Ent := ⟨"atom_in", .pl, ⟨(Str.ofString "atom_in", none), Str.ofString "atom_in", Str.ofString "atom_in", defArgs (top 13), defBody (top 13), defScope (top 13), [], []⟩, [Str.ofString "words", Str.ofString "terms"], [Str.ofString "words"], F_atom_in, [], none⟩
def F_is_name : Sts :=
  (.cons (.iff (.bop false (.cons (.not (.chn .le .le (.int 1) (.blt .len (.cons (.var 0) .nil)) (.glb "LONGEST_NAME"))) (.cons (.cmp .mem (.var 0) (.glb "KEPT_WORDS")) .nil)))
   (.cons (.ret (.bl false))
   .nil)
   .nil)
  (.cons (.ret (.blt .all (.cons (.lc (.cmp .mem (.var 1) (.glb "LETTERS")) (.nm 1) (.seq (.var 0)) .nil [1]) .nil)))
  .nil))
def E_is_name : Ent := ⟨"is_name", .pl, ⟨(Str.ofString "is_name", none), Str.ofString "is_name", Str.ofString "is_name", defArgs (top 7), defBody (top 7), defScope (top 7), [], []⟩, [Str.ofString "text", Str.ofString "sign"], [Str.ofString "text"], F_is_name, [], none⟩
def T : Tbl := ⟨[E_law, E__law_right, E__law_wide_term, E__law_wide_atom, E__law_wide_claim, E__law_wide_names, E__law_take, E__law_box, E__law_alike, E_read_claim, E_claim_text, E__law_claim_words, E_read_term, E_term_text, E__law_term_words, E__law_wide_name, E__law_wide_terms, E_claim_in, E_atom_text, E__law_atom_words, E_terms_in, E_atoms_in, E_parted_at, E_deep, E_term_at, E_atom_in, E_is_name], [("dict", .ty "dict"), ("list", .ty "list"), ("tuple", .ty "tuple"), ("str", .ty "str"), ("bool", .ty "bool"), ("MOST_DEEP", (.int 30)), ("LETTERS", (.str (Str.ofString "abcdefghijklmnopqrstuvwxyz"))), ("KEPT_WORDS", (.kt [(.str (Str.ofString "if")), (.str (Str.ofString "to")), (.str (Str.ofString "lefts"))])), ("LONGEST_NAME", (.int 8))], []⟩
theorem ents : (T.defs.all entS) = true := by decide +kernel
theorem bds : AllBd T.defs := ⟨fun _ _ _ _ _ _ us hl => match us, hl with | [_], _ => rfl, fun _ _ _ _ _ _ us hl => match us, hl with | [_, _], _ => rfl, fun _ _ _ _ _ _ us hl => match us, hl with | [_, _, _, _], _ => rfl, fun _ _ _ _ _ _ us hl => match us, hl with | [_, _], _ => rfl, fun _ _ _ _ _ _ us hl => match us, hl with | [_, _], _ => rfl, fun _ _ _ _ _ _ us hl => match us, hl with | [_], _ => rfl, fun _ _ _ _ _ _ us hl => match us, hl with | [_, _], _ => rfl, fun _ _ _ _ _ _ us hl => match us, hl with | [_, _], _ => rfl, fun _ _ _ _ _ _ us hl => match us, hl with | [_, _], _ => rfl, fun _ _ _ _ _ _ us hl => match us, hl with | [_], _ => rfl, fun _ _ _ _ _ _ us hl => match us, hl with | [_], _ => rfl, fun _ _ _ _ _ _ us hl => match us, hl with | [_], _ => rfl, fun _ _ _ _ _ _ us hl => match us, hl with | [_], _ => rfl, fun _ _ _ _ _ _ us hl => match us, hl with | [_], _ => rfl, fun _ _ _ _ _ _ us hl => match us, hl with | [_], _ => rfl, fun _ _ _ _ _ _ us hl => match us, hl with | [_], _ => rfl, fun _ _ _ _ _ _ us hl => match us, hl with | [_, _, _], _ => rfl, fun _ _ _ _ _ _ us hl => match us, hl with | [_], _ => rfl, fun _ _ _ _ _ _ us hl => match us, hl with | [_], _ => rfl, fun _ _ _ _ _ _ us hl => match us, hl with | [_], _ => rfl, fun _ _ _ _ _ _ us hl => match us, hl with | [_], _ => rfl, fun _ _ _ _ _ _ us hl => match us, hl with | [_], _ => rfl, fun _ _ _ _ _ _ us hl => match us, hl with | [_, _], _ => rfl, fun _ _ _ _ _ _ us hl => match us, hl with | [_], _ => rfl, fun _ _ _ _ _ _ us hl => match us, hl with | [_, _], _ => rfl, fun _ _ _ _ _ _ us hl => match us, hl with | [_], _ => rfl, fun _ _ _ _ _ _ us hl => match us, hl with | [_], _ => rfl, trivial⟩
theorem bks : AllBk T.defs := ⟨trivial, trivial, trivial, trivial, trivial, trivial, trivial, trivial, trivial, trivial, trivial, trivial, trivial, trivial, trivial, trivial, trivial, trivial, trivial, trivial, trivial, trivial, trivial, trivial, trivial, trivial, trivial, trivial⟩
theorem take_ok {P : Prog} (hP : P.fn "_law_take" = some ⟨.pl, 2, 4, F__law_take⟩) {k : Nat} {S : Sto} {b : Nat} {m : Int} {Q : QE} (hb : S b = some .bx) (hm : 0 < m) (hm2 : m < 2 ^ 64) (h : ∀ n : Int, 0 ≤ n → n < m → Q (.int n) S) : wpCall P (k + 1) .pl "_law_take" [.ref b, .int m] S Q xN := by
  refine call_o' hP [some (.ref b), some (.int m), none, none] rfl rfl fun S0 c => ?_
  obtain ⟨i, j, l, e⟩ := c.box hb
  have e1 : ∀ i j l : Int, (S0.put b (.lst [.int i, .int j, .int l])) b = some (.lst [.int i, .int j, .int l]) := fun _ _ _ => Sto.put_same
  have ret : ∀ (n i j l : Int), 0 ≤ n → n < m → (fin Q).rt (.int n) (S0.put b (.lst [.int i, .int j, .int l])) := fun n i j l h1 h2 => fin_rt (c.back hb _ _ _) (h n h1 h2)
  simp only [F__law_take, wpSs, wpS, wpE, wpEs, wpO, wpT, wpTs, wpB, wpCs, wpG, wpGs, wpI, wpJ, tgsLen, slot_0, slot_s, set_0, set_s, tp_tup, tp_key, tp_kt, Int.reduceLT, Int.reducePow, Int.reduceNeg, Int.reduceLE, b_add, b_sub, b_mulL, b_mulR, b_modP, b_fdivP, g_add, g_sub, c_lt, c_le, c_gt, c_ge, c_eqi, c_nei, c_eqs, c_nes, c_eqb, c_neb, c_isN, c_isnN, f_max2, f_min2, f_intb, f_int, t_bl, decide_eq_true_eq, decide_eq_false_iff_not, Bool.not_eq_true', Bool.not_eq_false', newL, ctx, int_a, b_modP hm, b_fdivP hm hm2, x_lst (i := 0) e rfl, x_lst (i := 1) e rfl, x_lst (i := 2) e rfl, p_lst (i := 0) (n := 0) e rfl, p_lst (i := 2) (n := 2) e rfl, List.set]
  refine ⟨fun _ => ret _ _ _ _ (Int.emod_nonneg _ (by omega)) (Int.emod_lt_of_pos _ hm), fun _ => ?_⟩
  simp only [x_lst (i := 0) (e1 _ _ _) rfl, x_lst (i := 1) (e1 _ _ _) rfl, x_lst (i := 2) (e1 _ _ _) rfl, p_lst (i := 1) (n := 1) (e1 _ _ _) rfl, List.set, Sto.put_put, Int.reduceLT, Int.reducePow, Int.reduceNeg, Int.reduceLE, b_add, b_sub, b_mulL, b_mulR, b_modP, b_fdivP, g_add, g_sub, c_lt, c_le, c_gt, c_ge, c_eqi, c_nei, c_eqs, c_nes, c_eqb, c_neb, c_isN, c_isnN, f_max2, f_min2, f_intb, f_int, t_bl, decide_eq_true_eq, decide_eq_false_iff_not, Bool.not_eq_true', Bool.not_eq_false', b_modP hm, Int.reduceLT, Int.reducePow, Int.reduceNeg, Int.reduceLE]
  exact ret _ _ _ _ (Int.emod_nonneg _ (by omega)) (Int.emod_lt_of_pos _ hm)
theorem box_ok {P : Prog} (hP : P.fn "_law_box" = some ⟨.pl, 2, 4, F__law_box⟩) {k : Nat} {S : Sto} {a : Nat} {ns : List Int} {i : Int} {Q : QE} (ha : S a = some (.rol (ns.map .int))) (h0 : 0 ≤ i) (h : ∀ b, S b = none → Q (.ref b) (S.put b .bx)) : wpCall P (k + 1) .pl "_law_box" [.ref a, .int i] S Q xN := by
  refine call_c' hP [some (.ref a), some (.int i), none, none] rfl rfl ?_
  have fin1 : ∀ c : Int, wpSs (ctx P k) xN (.cons (.set (.nm 3) (.bin .add (.bin .mod (.bin .add (.bin .add (.bin .mul (.bin .mod (.var 2) (.int 2147483629)) (.int 48271)) (.bin .mul (.int 40692) (.var 1))) (.int 7)) (.int 2147483629)) (.int 1)))
      (.cons (.ret (.lst (.cons (.idx (.lst (.cons (.int 0) (.cons (.var 2) .nil))) (.blt .int_ (.cons (.cmp .ge (.var 2) (.bin .pow (.int 10) (.int 18))) .nil))) (.cons (.var 3) (.cons (.int 0) .nil)))))
      .nil)) (fin Q) [some (.ref a), some (.int i), some (.int c), none] S := fun c => by
    simp only [wpSs, wpS, wpE, wpEs, wpO, wpT, wpTs, wpB, wpCs, wpG, wpGs, wpI, wpJ, tgsLen, slot_0, slot_s, set_0, set_s, tp_tup, tp_key, tp_kt, Int.reduceLT, Int.reducePow, Int.reduceNeg, Int.reduceLE, b_add, b_sub, b_mulL, b_mulR, b_modP, b_fdivP, g_add, g_sub, c_lt, c_le, c_gt, c_ge, c_eqi, c_nei, c_eqs, c_nes, c_eqb, c_neb, c_isN, c_isnN, f_max2, f_min2, f_intb, f_int, t_bl, decide_eq_true_eq, decide_eq_false_iff_not, Bool.not_eq_true', Bool.not_eq_false', newL, ctx, int_a, b_pow]
    intro p hp
    refine ⟨⟨by decide, by decide, by decide⟩, ?_⟩
    have hx : ∃ v, atI [D.int 0, D.int c] (if (10 : Int) ^ (18 : Int).toNat ≤ c then 1 else 0) = some (.int v) := by
      split
      · exact ⟨c, rfl⟩
      · exact ⟨0, rfl⟩
    obtain ⟨v, hv⟩ := hx
    rw [x_lst Sto.put_same hv]
    intro q hq
    have hq2 : S q = none := by
      by_cases z : q = p
      · rw [z]; exact hp
      · rw [Sto.put_ne z] at hq; exact hq
    refine fin_rt (S := S.put q .bx) (Abs.put2 (Abs.put hp) (.inr ⟨rfl, _, _, _, rfl⟩)) (h q hq2)
  simp only [F__law_box, wpSs, wpS, wpE, wpEs, wpO, wpT, wpTs, wpB, wpCs, wpG, wpGs, wpI, wpJ, tgsLen, slot_0, slot_s, set_0, set_s, tp_tup, tp_key, tp_kt, Int.reduceLT, Int.reducePow, Int.reduceNeg, Int.reduceLE, b_add, b_sub, b_mulL, b_mulR, b_modP, b_fdivP, g_add, g_sub, c_lt, c_le, c_gt, c_ge, c_eqi, c_nei, c_eqs, c_nes, c_eqb, c_neb, c_isN, c_isnN, f_max2, f_min2, f_intb, f_int, t_bl, decide_eq_true_eq, decide_eq_false_iff_not, Bool.not_eq_true', Bool.not_eq_false', newL, ctx, int_a, f_lenr ha, List.length_map] at fin1 ⊢
  refine ⟨fun h1 => ?_, fun h1 => ⟨fun h2 => ?_, fun h2 => fin1 _⟩⟩
  · obtain ⟨z, hz⟩ := atI_ints (ns := ns) h0 h1
    simp only [x_rol ha hz, Int.reduceLT, Int.reducePow, Int.reduceNeg, Int.reduceLE, b_add, b_sub, b_mulL, b_mulR, b_modP, b_fdivP, g_add, g_sub, c_lt, c_le, c_gt, c_ge, c_eqi, c_nei, c_eqs, c_nes, c_eqb, c_neb, c_isN, c_isnN, f_max2, f_min2, f_intb, f_int, t_bl, decide_eq_true_eq, decide_eq_false_iff_not, Bool.not_eq_true', Bool.not_eq_false']
    exact fin1 _
  · rw [b_modP h2]
    obtain ⟨z, hz⟩ := atI_ints (ns := ns) (Int.emod_nonneg i (by omega)) (Int.emod_lt_of_pos i h2)
    simp only [x_rol ha hz, Int.reduceLT, Int.reducePow, Int.reduceNeg, Int.reduceLE, b_add, b_sub, b_mulL, b_mulR, b_modP, b_fdivP, g_add, g_sub, c_lt, c_le, c_gt, c_ge, c_eqi, c_nei, c_eqs, c_nes, c_eqb, c_neb, c_isN, c_isnN, f_max2, f_min2, f_intb, f_int, t_bl, decide_eq_true_eq, decide_eq_false_iff_not, Bool.not_eq_true', Bool.not_eq_false', Int.reduceLT, Int.reducePow, Int.reduceNeg, Int.reduceLE]
    exact fin1 _

theorem name_ok {P : Prog} (hP : P.fn "is_name" = some ⟨.pl, 1, 2, F_is_name⟩) (g1 : P.gl "LONGEST_NAME" = some (.int 8)) (g2 : P.gl "KEPT_WORDS" = some (.kt keptD)) (g3 : P.gl "LETTERS" = some (.str letL)) {k : Nat} {S : Sto} {x : Str} {Q : QE} (hx : x.length ≤ 100) (h : Q (.bl (isNm x)) S) : wpCall P (k + 1) .pl "is_name" [.str x] S Q xN := by
  refine call_c' hP [some (.str x), none] rfl rfl ?_
  simp only [F_is_name, wpSs, wpS, wpE, wpEs, wpO, wpT, wpTs, wpB, wpCs, wpG, wpGs, wpI, wpJ, tgsLen, slot_0, slot_s, set_0, set_s, tp_tup, tp_key, tp_kt, Int.reduceLT, Int.reducePow, Int.reduceNeg, Int.reduceLE, b_add, b_sub, b_mulL, b_mulR, b_modP, b_fdivP, g_add, g_sub, c_lt, c_le, c_gt, c_ge, c_eqi, c_nei, c_eqs, c_nes, c_eqb, c_neb, c_isN, c_isnN, f_max2, f_min2, f_intb, f_int, t_bl, decide_eq_true_eq, decide_eq_false_iff_not, Bool.not_eq_true', Bool.not_eq_false', newL, ctx, int_a, g1, g2, g3, f_lens (small_len hx), mem_kts (show keptD.all flatD = true from rfl)]
  have no : isNm x = false → (fin Q).rt (.bl false) S := fun z => by rw [z] at h; exact fin_same h
  refine ⟨fun h1 => ⟨fun h2 => ⟨fun h3 => no ?_, fun h3 => ?_⟩, fun h2 => ⟨fun _ => no ?_, fun z => by cases z⟩⟩, fun h1 => ⟨fun z => (by cases z), fun _ => ⟨fun _ => no ?_, fun z => by cases z⟩⟩⟩
  · have h3 : inK x = true := h3
    unfold isNm; rw [h3]; simp
  · intro p hp
    refine lc_map (fun i y => ∃ c, x.cps.toList[i]? = some c ∧ y = .bl (decide (c ∈ letL.cps.toList))) (by rw [List.length_map, Array.length_toList]; exact Nat.le_trans hx (by decide)) (fun acc => rfl) (fun i d acc e K hK => ?_) (fun ys hl hy => ?_)
    · rw [List.getElem?_map] at e
      obtain ⟨c, e1, e2⟩ := Option.map_eq_some_iff.mp e
      subst e2
      simp only [wipeD, List.set, slot_s, slot_0, tp_tup, tp_key, tp_kt, mem_sign]
      exact hK _ _ ⟨c, e1, rfl⟩ (Abs.refl _)
    · have ey := eq_map (l := x.cps.toList) (f := fun c => .bl (decide (c ∈ letL.cps.toList))) (by rw [hl, List.length_map]) hy
      have ey : ys = (x.cps.toList.map fun c => decide (c ∈ letL.cps.toList)).map D.bl := by rw [ey, List.map_map]; rfl
      rw [f_all Sto.put_same (by rw [ey]; exact bls_map _)]
      refine fin_rt (Abs.put hp) ?_
      have h3 : inK x = false := h3
      have e : isNm x = (x.cps.toList.map fun c => decide (c ∈ letL.cps.toList)).all id := by
        unfold isNm
        rw [h3, List.all_map, decide_eq_true (show 1 ≤ x.length by omega), decide_eq_true (show x.length ≤ 8 by omega)]
        rfl
      rw [← e]; exact h
  · unfold isNm
    have : ¬ x.length ≤ 8 := by
      intro z
      rw [decide_eq_true (show (x.length : Int) ≤ 8 by omega)] at h2
      cases h2
    rw [decide_eq_false this]; simp
  · unfold isNm
    rw [decide_eq_false (show ¬ 1 ≤ x.length by omega)]; simp

theorem deep_ok {P : Prog} (g : P.gl "str" = some (.ty "str")) (hP : P.fn "deep" = some ⟨.pl, 1, 2, F_deep⟩) {W : Str → Nat → Prop} {V : Str → Prop} (hW : ∀ w n, W w n → n ≤ 1000) (hV : ∀ x, V x → x.length ≤ 1000) : ∀ (n : Nat) {d : D}, Tm W V n d → ∀ {k : Nat} {S : Sto} {Q : QE},
    Q (.int (dp d)) S → wpCall P (k + n + 1) .pl "deep" [d] S Q xN := by
  have step : ∀ (n : Nat) {d : D}, ((∃ x, V x ∧ d = .str x) ∨ ∃ w ts, W w ts.length ∧ d = .tup (.str w :: ts) ∧ ∀ t ∈ ts, ∀ {k : Nat} {S : Sto} {Q : QE}, Q (.int (dp t)) S → wpCall P (k + n) .pl "deep" [t] S Q xN) →
      ∀ {k : Nat} {S : Sto} {Q : QE}, Q (.int (dp d)) S → wpCall P (k + n + 1) .pl "deep" [d] S Q xN := by
    intro n d hd k S Q h
    refine call_c' hP [some d, none] rfl rfl ?_
    simp only [F_deep, wpSs, wpS, wpE, wpEs, wpO, wpT, wpTs, wpB, wpCs, wpG, wpGs, wpI, wpJ, tgsLen, slot_0, slot_s, set_0, set_s, tp_tup, tp_key, tp_kt, Int.reduceLT, Int.reducePow, Int.reduceNeg, Int.reduceLE, b_add, b_sub, b_mulL, b_mulR, b_modP, b_fdivP, g_add, g_sub, c_lt, c_le, c_gt, c_ge, c_eqi, c_nei, c_eqs, c_nes, c_eqb, c_neb, c_isN, c_isnN, f_max2, f_min2, f_intb, f_int, t_bl, decide_eq_true_eq, decide_eq_false_iff_not, Bool.not_eq_true', Bool.not_eq_false', newL, ctx, int_a, hasF_t hP, true_and, g]
    rcases hd with ⟨x, hx, rfl⟩ | ⟨w, ts, hw, rfl, ih⟩
    · rw [is_str_s]
      simp only [Int.reduceLT, Int.reducePow, Int.reduceNeg, Int.reduceLE, b_add, b_sub, b_mulL, b_mulR, b_modP, b_fdivP, g_add, g_sub, c_lt, c_le, c_gt, c_ge, c_eqi, c_nei, c_eqs, c_nes, c_eqb, c_neb, c_isN, c_isnN, f_max2, f_min2, f_intb, f_int, t_bl, decide_eq_true_eq, decide_eq_false_iff_not, Bool.not_eq_true', Bool.not_eq_false']
      exact ⟨fun z => (by cases z), fun _ => ⟨fun _ => fin_same h, fun z => (by cases z)⟩⟩
    · rw [is_str_t, f_lent]
      simp only [Int.reduceLT, Int.reducePow, Int.reduceNeg, Int.reduceLE, b_add, b_sub, b_mulL, b_mulR, b_modP, b_fdivP, g_add, g_sub, c_lt, c_le, c_gt, c_ge, c_eqi, c_nei, c_eqs, c_nes, c_eqb, c_neb, c_isN, c_isnN, f_max2, f_min2, f_intb, f_int, t_bl, decide_eq_true_eq, decide_eq_false_iff_not, Bool.not_eq_true', Bool.not_eq_false', s_tup, cut1, itemsM]
      refine ⟨fun _ => ⟨fun he => ?_, fun he p hp => ?_⟩, fun z => (by simp at z)⟩
      · cases ts with
        | nil => exact fin_same h
        | cons t ts => simp at he; omega
      · have hw := hW _ _ hw
        refine lc_map (fun i y => ∃ t, ts[i]? = some t ∧ y = .int (dp t)) (by omega) (fun _ => trivial) (fun i t acc e K hK => ?_) (fun ys hl hy => ?_)
        · simp only [wipeD, List.set, slot_s, slot_0, tp_tup, tp_key, tp_kt]
          exact ih t (List.mem_of_getElem? e) (hK _ _ ⟨t, e, rfl⟩ (Abs.refl _))
        · have ey : ys = (ts.map fun t => ((dp t : Nat) : Int)).map D.int := by
            rw [List.map_map]
            exact eq_map hl hy
          rw [f_max1 (ns := ts.map fun t => ((dp t : Nat) : Int)) (ds := ys) (by walk_at "stk") (by rw [ey]; exact ints_map _)]
          have hne : ts ≠ [] := fun z => by rw [z] at he; exact he rfl
          refine ⟨by rw [List.length_map]; exact List.length_pos_iff.mpr hne, fun m hm hmx => ?_⟩
          obtain ⟨t, ht, rfl⟩ := List.mem_map.mp hm
          have e4 : dpM ts = dp t := dpM_max (fun y hy => by
            have := hmx _ (List.mem_map.mpr ⟨y, hy, rfl⟩)
            omega) ht
          have e5 : dp (.tup (.str w :: ts)) = 1 + dpM ts := by
            cases ts with
            | nil => exact absurd rfl hne
            | cons t ts => rfl
          rw [e5, e4] at h
          simp only [Int.reduceLT, Int.reducePow, Int.reduceNeg, Int.reduceLE, b_add, b_sub, b_mulL, b_mulR, b_modP, b_fdivP, g_add, g_sub, c_lt, c_le, c_gt, c_ge, c_eqi, c_nei, c_eqs, c_nes, c_eqb, c_neb, c_isN, c_isnN, f_max2, f_min2, f_intb, f_int, t_bl, decide_eq_true_eq, decide_eq_false_iff_not, Bool.not_eq_true', Bool.not_eq_false']
          refine fin_rt (S := S) (by walk_at "absT") ?_
          have e6 : (1 : Int) + ((dp t : Nat) : Int) = ((1 + dp t : Nat) : Int) := by omega
          rw [e6]; exact h
  intro n
  induction n with
  | zero =>
    intro d hd k S Q h
    refine step 0 ?_ h
    rcases hd with h | ⟨w, h1, h2⟩
    · exact .inl h
    · exact .inr ⟨w, [], h1, h2, fun t ht => by cases ht⟩
  | succ n ih =>
    intro d hd k S Q h
    refine step (n + 1) ?_ h
    rcases hd with h | ⟨w, ts, h1, rfl, h3⟩
    · exact .inl h
    · exact .inr ⟨w, ts, h1, rfl, fun t ht {k S Q} h => ih (h3 t ht) h⟩

/-- alike: plain data, lists of it -/
def Sm : Nat → Sto → D → D → Prop
  | 0, _, x, y => flatD x = true ∧ x = y
  | n + 1, S, x, y => (flatD x = true ∧ x = y) ∨
    (∃ xs ys, tupOf x = some xs ∧ tupOf y = some ys ∧ tyOf x S = some (.ty "tuple") ∧ tyOf y S = some (.ty "tuple") ∧ xs.length ≤ 100000 ∧ xs.length = ys.length ∧ ∀ (i : Nat) u v, xs[i]? = some u → ys[i]? = some v → Sm n S u v) ∨
    (∃ a b xs ys, x = .ref a ∧ y = .ref b ∧ S a = some (.lst xs) ∧ S b = some (.lst ys) ∧ xs.length ≤ 100000 ∧ xs.length = ys.length ∧ ∀ (i : Nat) u v, xs[i]? = some u → ys[i]? = some v → Sm n S u v)
theorem Sm.sub : ∀ {n : Nat} {S S' : Sto} {x y : D}, Sub S S' → Sm n S x y → Sm n S' x y
  | 0, S, S', x, y, h, hs => hs
  | n + 1, S, S', x, y, h, hs => by
    rcases hs with hs | ⟨xs, ys, h1, h2, h3, h4, h5, h6, h7⟩ | ⟨a, b, xs, ys, h1, h2, h3, h4, h5, h6, h7⟩
    · exact .inl hs
    · refine .inr (.inl ⟨xs, ys, h1, h2, ?_, ?_, h5, h6, fun i u v e1 e2 => (h7 i u v e1 e2).sub h⟩)
      · cases x <;> first | exact h3 | cases h1
      · cases y <;> first | exact h4 | cases h2
    · exact .inr (.inr ⟨a, b, xs, ys, h1, h2, h _ _ h3, h _ _ h4, h5, h6, fun i u v e1 e2 => (h7 i u v e1 e2).sub h⟩)
theorem flatB_ok {P : Prog} (hb : P.gl "bool" = some (.ty "bool")) (ht : P.gl "tuple" = some (.ty "tuple")) (hl : P.gl "list" = some (.ty "list")) (hd : P.gl "dict" = some (.ty "dict")) (hs : P.gl "str" = some (.ty "str")) (hP : P.fn "_law_alike" = some ⟨.pl, 2, 4, F__law_alike⟩) {k : Nat} {S : Sto} {x : D} {Q : QE} (hx : flatD x = true) (h : Q (.bl true) S) : wpCall P (k + 1) .pl "_law_alike" [x, x] S Q xN := by
  refine call_c' hP [some x, some x, none, none] rfl rfl ?_
  simp only [F__law_alike, wpSs, wpS, wpE, wpEs, wpO, wpT, wpTs, wpB, wpCs, wpG, wpGs, wpI, wpJ, tgsLen, slot_0, slot_s, set_0, set_s, tp_tup, tp_key, tp_kt, Int.reduceLT, Int.reducePow, Int.reduceNeg, Int.reduceLE, b_add, b_sub, b_mulL, b_mulR, b_modP, b_fdivP, g_add, g_sub, c_lt, c_le, c_gt, c_ge, c_eqi, c_nei, c_eqs, c_nes, c_eqb, c_neb, c_isN, c_isnN, f_max2, f_min2, f_intb, f_int, t_bl, decide_eq_true_eq, decide_eq_false_iff_not, Bool.not_eq_true', Bool.not_eq_false', newL, ctx, int_a, hb, ht, hl, hd, hs, hasF_t hP, true_and]
  obtain ⟨m, h1, h2⟩ := flat_ty hx S
  have i1 : ∀ fl (Q : QE), bfM fl .isinst [x, .key [.ty "tuple", .ty "list"]] S Q = Q (.bl false) S := fun fl Q => by rcases h2 with rfl | rfl | rfl | rfl <;> exact isi_any h1 (by simp) rfl rfl
  have i2 : ∀ fl (Q : QE), bfM fl .isinst [x, .key [.ty "tuple", .ty "list", .ty "dict"]] S Q = Q (.bl false) S := fun fl Q => by rcases h2 with rfl | rfl | rfl | rfl <;> exact isi_any h1 (by simp) rfl rfl
  have i3 : ∀ fl (Q : QE), bfM fl .isinst [x, .ty "dict"] S Q = Q (.bl false) S := fun fl Q => by rcases h2 with rfl | rfl | rfl | rfl <;> exact isi_one h1 rfl
  have i4 : ∃ b, ∀ fl (Q : QE), bfM fl .isinst [x, .ty "bool"] S Q = Q (.bl b) S := by rcases h2 with rfl | rfl | rfl | rfl <;> exact ⟨_, fun fl Q => isi_one h1 rfl⟩
  have i5 : ∃ b, ∀ fl (Q : QE), bfM fl .isinst [x, .ty "str"] S Q = Q (.bl b) S := by rcases h2 with rfl | rfl | rfl | rfl <;> exact ⟨_, fun fl Q => isi_one h1 rfl⟩
  obtain ⟨b4, i4⟩ := i4
  obtain ⟨b5, i5⟩ := i5
  simp only [i1, i2, i3, i4, i5, Int.reduceLT, Int.reducePow, Int.reduceNeg, Int.reduceLE, b_add, b_sub, b_mulL, b_mulR, b_modP, b_fdivP, g_add, g_sub, c_lt, c_le, c_gt, c_ge, c_eqi, c_nei, c_eqs, c_nes, c_eqb, c_neb, c_isN, c_isnN, f_max2, f_min2, f_intb, f_int, t_bl, decide_eq_true_eq, decide_eq_false_iff_not, Bool.not_eq_true', Bool.not_eq_false']
  simp only [eq_self, decide_true, decide_false, Bool.not_true, Bool.not_false, Bool.true_eq_false, Bool.false_eq_true, reduceCtorEq, false_implies, true_implies, implies_true, and_true, true_and, not_true_eq_false, not_false_eq_true, forall_const, flat_eq hx]
  exact fin_same h
theorem alikeB_ok {P : Prog} (hb : P.gl "bool" = some (.ty "bool")) (ht : P.gl "tuple" = some (.ty "tuple")) (hl : P.gl "list" = some (.ty "list")) (hd : P.gl "dict" = some (.ty "dict")) (hs : P.gl "str" = some (.ty "str")) (hP : P.fn "_law_alike" = some ⟨.pl, 2, 4, F__law_alike⟩) : ∀ (n : Nat) {k : Nat} {S : Sto} {x y : D} {Q : QE}, Sm n S x y → Q (.bl true) S → wpCall P (k + n + 1) .pl "_law_alike" [x, y] S Q xN
  | 0, k, S, x, y, Q, hx, h => by obtain ⟨h1, rfl⟩ := hx; exact flatB_ok hb ht hl hd hs hP h1 h
  | n + 1, k, S, x, y, Q, hx, h => by
    rcases hx with ⟨h1, rfl⟩ | ⟨xs, ys, h1, h2, h3, h4, h5, h6, h7⟩ | ⟨a, b, xs, ys, rfl, rfl, h1, h2, h5, h6, h7⟩
    · exact flatB_ok (k := k + (n + 1)) hb ht hl hd hs hP h1 h
    · refine call_c' (k := k + n + 1) hP [some x, some y, none, none] rfl rfl ?_
      simp only [F__law_alike, wpSs, wpS, wpE, wpEs, wpO, wpT, wpTs, wpB, wpCs, wpG, wpGs, wpI, wpJ, tgsLen, slot_0, slot_s, set_0, set_s, tp_tup, tp_key, tp_kt, Int.reduceLT, Int.reducePow, Int.reduceNeg, Int.reduceLE, b_add, b_sub, b_mulL, b_mulR, b_modP, b_fdivP, g_add, g_sub, c_lt, c_le, c_gt, c_ge, c_eqi, c_nei, c_eqs, c_nes, c_eqb, c_neb, c_isN, c_isnN, f_max2, f_min2, f_intb, f_int, t_bl, decide_eq_true_eq, decide_eq_false_iff_not, Bool.not_eq_true', Bool.not_eq_false', newL, ctx, int_a, hb, ht, hl, hd, hs, hasF_t hP, true_and]
      rw [isi_any h4 (by simp) rfl rfl, isi_one h3 rfl, isi_one h4 rfl, isi_one h3 rfl, isi_one h4 rfl]
      have ex : lstOf x S = none := by cases x <;> first | rfl | cases h1
      have ey : lstOf y S = none := by cases y <;> first | rfl | cases h2
      have lx : ∀ fl (Q : QE), bfM fl .len [x] S Q = Q (.int xs.length) S := fun fl Q => by cases x <;> first | cases h1; rfl | cases h1
      have ly : ∀ fl (Q : QE), bfM fl .len [y] S Q = Q (.int ys.length) S := fun fl Q => by cases y <;> first | cases h2; rfl | cases h2
      simp only [Int.reduceLT, Int.reducePow, Int.reduceNeg, Int.reduceLE, b_add, b_sub, b_mulL, b_mulR, b_modP, b_fdivP, g_add, g_sub, c_lt, c_le, c_gt, c_ge, c_eqi, c_nei, c_eqs, c_nes, c_eqb, c_neb, c_isN, c_isnN, f_max2, f_min2, f_intb, f_int, t_bl, decide_eq_true_eq, decide_eq_false_iff_not, Bool.not_eq_true', Bool.not_eq_false', lx, ly, ex, ey, h1, h2, h6, eq_self, decide_true, decide_false, Bool.not_true, Bool.not_false, Bool.true_eq_false, Bool.false_eq_true, reduceCtorEq, false_implies, true_implies, implies_true, and_true, true_and, not_true_eq_false, not_false_eq_true, forall_const]
      intro p hp
      refine lc_map (fun _ y => y = .bl true) (by rw [zipL_length]; omega) (fun _ => trivial) (fun i d acc e K hK => ?_) (fun zs hy1 hy2 => ?_)
      · obtain ⟨u, v, e1, e2, rfl⟩ := zipL_get e
        simp only [wipeD, List.set, slot_s, slot_0, tp_tup, tp_key, tp_kt]
        exact ⟨by trivial, by trivial, alikeB_ok hb ht hl hd hs hP n ((h7 i u v e1 e2).sub (Sub.put hp)) (hK _ _ rfl (Abs.refl _))⟩
      · rw [f_all_true Sto.put_same hy2]
        exact fin_rt (Abs.put hp) h
    · refine call_c' (k := k + n + 1) hP [some (.ref a), some (.ref b), none, none] rfl rfl ?_
      simp only [F__law_alike, wpSs, wpS, wpE, wpEs, wpO, wpT, wpTs, wpB, wpCs, wpG, wpGs, wpI, wpJ, tgsLen, slot_0, slot_s, set_0, set_s, tp_tup, tp_key, tp_kt, Int.reduceLT, Int.reducePow, Int.reduceNeg, Int.reduceLE, b_add, b_sub, b_mulL, b_mulR, b_modP, b_fdivP, g_add, g_sub, c_lt, c_le, c_gt, c_ge, c_eqi, c_nei, c_eqs, c_nes, c_eqb, c_neb, c_isN, c_isnN, f_max2, f_min2, f_intb, f_int, t_bl, decide_eq_true_eq, decide_eq_false_iff_not, Bool.not_eq_true', Bool.not_eq_false', newL, ctx, int_a, hb, ht, hl, hd, hs, hasF_t hP, true_and]
      have h3 : tyOf (.ref a) S = some (.ty "list") := by
        exact ty_lst h1
      have h4 : tyOf (.ref b) S = some (.ty "list") := by
        exact ty_lst h2
      rw [isi_any h4 (by simp) rfl rfl, isi_one h3 rfl, isi_one h4 rfl, isi_one h3 rfl, isi_one h4 rfl]
      simp only [Int.reduceLT, Int.reducePow, Int.reduceNeg, Int.reduceLE, b_add, b_sub, b_mulL, b_mulR, b_modP, b_fdivP, g_add, g_sub, c_lt, c_le, c_gt, c_ge, c_eqi, c_nei, c_eqs, c_nes, c_eqb, c_neb, c_isN, c_isnN, f_max2, f_min2, f_intb, f_int, t_bl, decide_eq_true_eq, decide_eq_false_iff_not, Bool.not_eq_true', Bool.not_eq_false', f_lenl h1, f_lenl h2, lst_of h1, lst_of h2, h6, eq_self, decide_true, decide_false, Bool.not_true, Bool.not_false, Bool.true_eq_false, Bool.false_eq_true, reduceCtorEq, false_implies, true_implies, implies_true, and_true, true_and, not_true_eq_false, not_false_eq_true, forall_const]
      intro p hp
      have nap : a ≠ p := by walk_at "stne"
      have nbp : b ≠ p := by walk_at "stne"
      refine lc_map (fun _ y => y = .bl true) (by rw [zipL_length]; omega) (fun _ => ⟨lst_of (by walk_at "stk"), lst_of (by walk_at "stk")⟩) (fun i d acc e K hK => ?_) (fun zs hy1 hy2 => ?_)
      · obtain ⟨u, v, e1, e2, rfl⟩ := zipL_get e
        simp only [wipeD, List.set, slot_s, slot_0, tp_tup, tp_key, tp_kt]
        exact ⟨by trivial, by trivial, alikeB_ok hb ht hl hd hs hP n ((h7 i u v e1 e2).sub (Sub.put hp)) (hK _ _ rfl (Abs.refl _))⟩
      · rw [f_all_true Sto.put_same hy2]
        exact fin_rt (Abs.put hp) h

/-- trees of tuples are alike to themselves -/
theorem tree_sm (S : Sto) : ∀ {n : Nat} {d : D}, tree n d → Sm n S d d
  | 0, d, h => ⟨h, rfl⟩
  | n + 1, d, h => by
    rcases h with h | ⟨ds, rfl, h2, h3⟩
    · exact .inl ⟨h, rfl⟩
    · exact .inr (.inl ⟨_, _, rfl, rfl, rfl, rfl, by omega, rfl, fun i u v e1 e2 => by
        rw [e1] at e2; cases e2
        exact tree_sm S (h3 u (List.mem_of_getElem? e1))⟩)
theorem tree_le {n m : Nat} {d : D} (h : tree n d) (hm : n ≤ m) : tree m d := by
  induction hm with
  | refl => exact h
  | step _ ih => exact ih.up
theorem tm_tree {W : Str → Nat → Prop} {V : Str → Prop} (hW : ∀ w n, W w n → n ≤ 100) : ∀ {n : Nat} {d : D}, Tm W V n d → Lr.tree (n + 1) d
  | 0, d, h => by
    rcases h with ⟨x, h1, rfl⟩ | ⟨w, h1, rfl⟩
    · exact .inl rfl
    · exact .inr ⟨_, rfl, by simp, fun x hx => by rw [List.mem_singleton.mp hx]; rfl⟩
  | n + 1, d, h => by
    rcases h with ⟨x, h1, rfl⟩ | ⟨w, ts, h1, rfl, h3⟩
    · exact .inl rfl
    · have := hW _ _ h1
      refine .inr ⟨_, rfl, by rw [List.length_cons]; omega, fun x hx => ?_⟩
      rcases List.mem_cons.mp hx with rfl | hx
      · exact .inl rfl
      · exact tm_tree hW (h3 x hx)
theorem tree_tup {n : Nat} {ds : List D} (hl : ds.length ≤ 1000) (h : ∀ d ∈ ds, tree n d) : tree (n + 1) (.tup ds) := .inr ⟨ds, rfl, hl, h⟩
theorem bk_tree {ms : List (Str × Int)} {ss : List Say} (bk : Bk ms ss) {s : Say} (hs : s ∈ ss) : Lr.tree 9 (.tup (s.rules.map ruleD)) := by
  have hW : ∀ w n, mkW' ms w n → n ≤ 100 := fun w n h => by have := (bk.mt _ h).2; simp only at this; omega
  obtain ⟨h1, h2⟩ := bk.sr s hs
  have hf := bk.sf s hs
  obtain ⟨f1, f2, f3⟩ := hf
  simp only at f1 f2 f3
  refine tree_tup (by rw [List.length_map]; omega) fun d hd => ?_
  obtain ⟨r, hr, rfl⟩ := List.mem_map.mp hd
  obtain ⟨h3, h4, h5⟩ := h2 r hr
  have hl := h3.len
  simp only at hl
  refine tree_tup (by simp) fun d hd => ?_
  rcases List.mem_cons.mp hd with rfl | hd
  · exact tree_tup (by omega) fun t ht => tree_le (tm_tree hW (h3.tm t ht)) (by decide)
  · rw [List.mem_singleton.mp hd]
    refine tree_tup (by rw [List.length_map]; omega) fun d hd => ?_
    obtain ⟨q, hq, rfl⟩ := List.mem_map.mp hd
    obtain ⟨s', hs', e1, e2⟩ := h5 q hq
    have hl2 := e2.len
    have hf' := bk.sf s' hs'
    obtain ⟨f1', f2', f3'⟩ := hf'
    simp only at hl2 f1' f2' f3'
    refine tree_tup (by simp) fun d hd => ?_
    rcases List.mem_cons.mp hd with rfl | hd
    · exact .inl rfl
    · rw [List.mem_singleton.mp hd]
      exact tree_tup (by omega) fun t ht => tree_le (tm_tree hW (e2.tm t ht)) (by decide)

/-! ### terms as words -/
abbrev oW : Str := Str.ofString "("
abbrev cW : Str := Str.ofString ")"
abbrev spW : Str := Str.ofString " "
mutual
/-- a term's words -/
def tw : D → List Str
  | .str x => [x]
  | .tup ds => twT ds
  | _ => []
def twT : List D → List Str
  | .str w :: ts => Str.ofString "(" :: w :: (twS ts ++ [Str.ofString ")"])
  | _ => []
def twS : List D → List Str
  | [] => []
  | t :: ts => tw t ++ twS ts
end
abbrev WW : Str → Nat → Prop := fun w n => isNm w = true ∧ n ≤ 100
abbrev WV : Str → Prop := fun x => isNm x = true
/-- a word of a term -/
def Wd (x : Str) : Prop := isNm x = true ∨ x = oW ∨ x = cW
theorem tw_tup (w : Str) (ts : List D) : tw (.tup (.str w :: ts)) = oW :: w :: (twS ts ++ [cW]) := rfl
theorem twS_app : ∀ ts us : List D, twS (ts ++ us) = twS ts ++ twS us
  | [], us => rfl
  | t :: ts, us => by show tw t ++ twS (ts ++ us) = (tw t ++ twS ts) ++ twS us; rw [twS_app ts us, List.append_assoc]
theorem twS_map : ∀ ts : List D, twS ts = (ts.map tw).flatten
  | [] => rfl
  | t :: ts => by show tw t ++ twS ts = tw t ++ (ts.map tw).flatten; rw [twS_map ts]
theorem twS_mem {x : Str} : ∀ {ts : List D}, x ∈ twS ts → ∃ t ∈ ts, x ∈ tw t
  | [], h => by cases h
  | t :: ts, h => by
    rcases List.mem_append.mp (show x ∈ tw t ++ twS ts from h) with h | h
    · exact ⟨t, List.mem_cons_self .., h⟩
    · obtain ⟨u, h1, h2⟩ := twS_mem h
      exact ⟨u, List.mem_cons_of_mem _ h1, h2⟩
theorem tw_wd : ∀ {n : Nat} {d : D}, Tm WW WV n d → ∀ x ∈ tw d, Wd x := by
  intro n
  induction n with
  | zero =>
    intro d h x hx
    rcases h with ⟨y, hy, rfl⟩ | ⟨w, hw, rfl⟩
    · cases List.mem_singleton.mp hx; exact .inl hy
    · have hx : x ∈ [oW, w, cW] := hx
      simp only [List.mem_cons, List.not_mem_nil, or_false] at hx
      rcases hx with rfl | rfl | rfl
      · exact .inr (.inl rfl)
      · exact .inl hw.1
      · exact .inr (.inr rfl)
  | succ n ih =>
    intro d h x hx
    rcases h with ⟨y, hy, rfl⟩ | ⟨w, ts, hw, rfl, ht⟩
    · cases List.mem_singleton.mp hx; exact .inl hy
    · have hx : x ∈ oW :: w :: (twS ts ++ [cW]) := hx
      simp only [List.mem_cons, List.mem_append, List.not_mem_nil, or_false] at hx
      rcases hx with rfl | rfl | hx | rfl
      · exact .inr (.inl rfl)
      · exact .inl hw.1
      · obtain ⟨t, h1, h2⟩ := twS_mem hx
        exact ih (ht t h1) x h2
      · exact .inr (.inr rfl)
theorem tw_ne {n : Nat} {d : D} (h : Tm WW WV n d) : tw d ≠ [] := by
  rcases h.split with ⟨x, _, rfl⟩ | ⟨w, ts, _, rfl, _⟩ <;> (intro z; cases z)
theorem let_ge : ∀ c ∈ letL.cps.toList, 97 ≤ c := by decide +kernel
theorem nm_az {x : Str} (h : isNm x = true) : ∀ c ∈ x.cps.toList, 97 ≤ c := fun c hc => by
  unfold isNm at h
  simp only [Bool.and_eq_true] at h
  have := List.all_eq_true.mp h.2 c hc
  exact let_ge c (of_decide_eq_true this)
theorem nm_len {x : Str} (h : isNm x = true) : 1 ≤ x.length ∧ x.length ≤ 8 := by
  unfold isNm at h
  simp only [Bool.and_eq_true, decide_eq_true_eq] at h
  exact h.1.1
theorem Wd.sp {x : Str} (h : Wd x) : 32 ∉ x.cps.toList := fun z => by
  rcases h with h | rfl | rfl
  · have := nm_az h 32 z; omega
  · revert z; decide +kernel
  · revert z; decide +kernel
theorem Wd.len {x : Str} (h : Wd x) : x.length ≤ 8 := by
  rcases h with h | rfl | rfl
  · exact (nm_len h).2
  · decide
  · decide
theorem nm_ne {x y : Str} (h : isNm x = true) (hy : isNm y = false) : x ≠ y := by rintro rfl; rw [h] at hy; cases hy
theorem Wd.ne {x y : Str} (h : Wd x) (hy : isNm y = false) (h1 : oW ≠ y) (h2 : cW ≠ y) : x ≠ y := by
  rcases h with h | rfl | rfl
  · exact nm_ne h hy
  · exact h1
  · exact h2
theorem oW_no : isNm oW = false := by decide +kernel
theorem cW_no : isNm cW = false := by decide +kernel
/-! ### words joined -/
theorem joinL_app (S : List Nat) : ∀ {xs ys : List (List Nat)}, xs ≠ [] → ys ≠ [] → TL.joinL S (xs ++ ys) = TL.joinL S xs ++ (S ++ TL.joinL S ys)
  | [], _, h, _ => absurd rfl h
  | [x], ys, _, h => by
    cases ys with
    | nil => exact absurd rfl h
    | cons y ys => rfl
  | x :: z :: xs, ys, _, h => by
    show x ++ (S ++ TL.joinL S ((z :: xs) ++ ys)) = (x ++ (S ++ TL.joinL S (z :: xs))) ++ (S ++ TL.joinL S ys)
    rw [joinL_app S (List.cons_ne_nil z xs) h]
    simp only [List.append_assoc]
theorem joinL_flat (S : List Nat) : ∀ {xss : List (List (List Nat))}, (∀ xs ∈ xss, xs ≠ []) → TL.joinL S (xss.map (TL.joinL S)) = TL.joinL S xss.flatten
  | [], _ => rfl
  | [x], _ => by show TL.joinL S x = TL.joinL S (x ++ []); rw [List.append_nil]
  | x :: y :: r, h => by
    show TL.joinL S x ++ (S ++ TL.joinL S ((y :: r).map (TL.joinL S))) = TL.joinL S (x ++ (y :: r).flatten)
    rw [joinL_flat S (xss := y :: r) (fun z hz => h z (List.mem_cons_of_mem _ hz)), joinL_app S (h x (List.mem_cons_self ..)) (fun z => by
      have hy := h y (List.mem_cons_of_mem _ (List.mem_cons_self ..))
      rw [List.flatten_cons] at z
      exact hy (List.append_eq_nil_iff.mp z).1)]
/-- with commas between -/
def comL {α : Type} (m : α) : List (List α) → List α
  | [] => []
  | [x] => x
  | x :: y :: r => x ++ m :: comL m (y :: r)
theorem comL_ne {α : Type} {m : α} {xs : List α} {r : List (List α)} (h : xs ≠ []) : comL m (xs :: r) ≠ [] := by
  cases r with
  | nil => exact h
  | cons y r => intro z; exact absurd (List.append_eq_nil_iff.mp z).2 (List.cons_ne_nil _ _)
theorem comL_map {α β : Type} (f : α → β) (m : α) : ∀ xss : List (List α), (comL m xss).map f = comL (f m) (xss.map (List.map f))
  | [] => rfl
  | [x] => rfl
  | x :: y :: r => by
    show (x ++ m :: comL m (y :: r)).map f = x.map f ++ f m :: comL (f m) ((y :: r).map (List.map f))
    rw [List.map_append, List.map_cons, comL_map f m (y :: r)]
theorem joinL_com (m : List Nat) : ∀ {xss : List (List (List Nat))}, (∀ xs ∈ xss, xs ≠ []) → TL.joinL (32 :: m ++ [32]) (xss.map (TL.joinL [32])) = TL.joinL [32] (comL m xss)
  | [], _ => rfl
  | [x], _ => rfl
  | x :: y :: r, h => by
    have hy := h y (List.mem_cons_of_mem _ (List.mem_cons_self ..))
    show TL.joinL [32] x ++ (32 :: m ++ [32] ++ TL.joinL (32 :: m ++ [32]) ((y :: r).map (TL.joinL [32]))) = TL.joinL [32] (x ++ m :: comL m (y :: r))
    rw [joinL_com m (xss := y :: r) (fun z hz => h z (List.mem_cons_of_mem _ hz)), joinL_app [32] (h x (List.mem_cons_self ..)) (List.cons_ne_nil _ _)]
    have e : TL.joinL [32] (m :: comL m (y :: r)) = m ++ ([32] ++ TL.joinL [32] (comL m (y :: r))) := joinL_app [32] (xs := [m]) (List.cons_ne_nil _ _) (comL_ne hy)
    rw [e]
    simp only [List.append_assoc, List.cons_append, List.nil_append]
theorem tl_jn (y : Str) (ps : List Str) : TL.tl (Txt.join y ps) = TL.joinL (TL.tl y) (ps.map TL.tl) := by rw [TL.join_eq]; exact TL.tl_join y ps
theorem tl_sp : TL.tl spW = [32] := by decide +kernel
theorem map_jn (xss : List (List Str)) : (xss.map (Txt.join spW)).map TL.tl = (xss.map (List.map TL.tl)).map (TL.joinL [32]) := by
  rw [List.map_map, List.map_map]
  refine List.map_congr_left fun x _ => ?_
  show TL.tl (Txt.join spW x) = TL.joinL [32] (x.map TL.tl)
  rw [tl_jn, tl_sp]
theorem jn_flat {xss : List (List Str)} (h : ∀ xs ∈ xss, xs ≠ []) : Txt.join spW (xss.map (Txt.join spW)) = Txt.join spW xss.flatten := by
  apply TL.ext_tl
  rw [tl_jn, tl_jn, tl_sp, map_jn, joinL_flat [32] (fun xs hx => by
    obtain ⟨y, hy, rfl⟩ := List.mem_map.mp hx
    exact fun z => h y hy (List.map_eq_nil_iff.mp z)), List.map_flatten]
theorem jn_com {s : Str} {m : Str} (hs : TL.tl s = 32 :: TL.tl m ++ [32]) {xss : List (List Str)} (h : ∀ xs ∈ xss, xs ≠ []) : Txt.join s (xss.map (Txt.join spW)) = Txt.join spW (comL m xss) := by
  apply TL.ext_tl
  rw [tl_jn, tl_jn, tl_sp, map_jn, hs, joinL_com (TL.tl m) (fun xs hx => by
    obtain ⟨y, hy, rfl⟩ := List.mem_map.mp hx
    exact fun z => h y hy (List.map_eq_nil_iff.mp z)), comL_map]
theorem jn_one (x : Str) : Txt.join spW [x] = x := by
  apply TL.ext_tl
  rw [tl_jn]; rfl
theorem jn_ne {ws : List Str} (h : ws ≠ []) (h1 : ∀ w ∈ ws, w ≠ Str.ofString "") : Txt.join spW ws ≠ Str.ofString "" := by
  cases ws with
  | nil => exact absurd rfl h
  | cons w r =>
    intro z
    have hw := h1 w (List.mem_cons_self ..)
    have z := congrArg TL.tl z
    rw [tl_jn] at z
    have e0 : TL.tl (Str.ofString "") = [] := by decide +kernel
    rw [e0] at z
    have : TL.tl w = [] := by
      cases r with
      | nil => exact z
      | cons y r => exact (List.append_eq_nil_iff.mp (show TL.tl w ++ _ = [] from z)).1
    exact hw (TL.ext_tl (by rw [this, e0]))
theorem joinL_len (S : List Nat) : ∀ ps : List (List Nat), (TL.joinL S ps).length ≤ (ps.map List.length).sum + ps.length * S.length
  | [] => Nat.zero_le _
  | [p] => by show p.length ≤ (p.length + 0) + _; omega
  | p :: q :: r => by
    have := joinL_len S (q :: r)
    show (p ++ (S ++ TL.joinL S (q :: r))).length ≤ _
    simp only [List.length_append, List.map_cons, List.sum_cons, List.length_cons, Nat.add_mul] at this ⊢
    omega
theorem sum_le {B : Nat} : ∀ ws : List Str, (∀ w ∈ ws, w.length ≤ B) → (ws.map fun w : Str => w.length).sum ≤ ws.length * B
  | [], _ => Nat.zero_le _
  | w :: ws, h => by
    have := sum_le ws fun x hx => h x (List.mem_cons_of_mem _ hx)
    have := h w (List.mem_cons_self ..)
    simp only [List.map_cons, List.sum_cons, List.length_cons, Nat.add_mul]
    omega
theorem jn_len {y : Str} {B : Nat} {ws : List Str} (h : ∀ w ∈ ws, w.length ≤ B) : (Txt.join y ws).length ≤ ws.length * B + ws.length * y.length := by
  rw [TL.len_tl, tl_jn]
  have h1 := joinL_len (TL.tl y) (ws.map TL.tl)
  rw [List.map_map, List.length_map] at h1
  have h2 : (ws.map (List.length ∘ TL.tl)) = ws.map fun w : Str => w.length := List.map_congr_left fun w _ => (TL.len_tl w).symm
  rw [h2] at h1
  have := sum_le ws h
  rw [TL.len_tl y]
  omega
/-- words joined and split are the words -/
theorem split_jn {ws : List Str} (hne : ws ≠ []) (h : ∀ w ∈ ws, 32 ∉ w.cps.toList) : Txt.split (Txt.join spW ws) spW = ws := TL.split_join (s := 32) (S := []) tl_sp (by decide +kernel) hne h

abbrev wsL : List D := [.str (Str.ofString "maker"), .str (Str.ofString "saying"), .str (Str.ofString "rule"), .str (Str.ofString "by"), .str (Str.ofString "same"), .str (Str.ofString "cases"), .str (Str.ofString "use"), .str (Str.ofString "fill"), .str (Str.ofString "put"), .str (Str.ofString "with"), .str (Str.ofString "rights"), .str (Str.ofString "again")]
theorem wsL_nm : ∀ d ∈ wsL, ∃ x : Str, d = .str x ∧ isNm x = true := fun d hd => by
  simp only [wsL, List.mem_cons, List.not_mem_nil, or_false] at hd
  rcases hd with rfl | rfl | rfl | rfl | rfl | rfl | rfl | rfl | rfl | rfl | rfl | rfl <;> exact ⟨_, rfl, by decide +kernel⟩
/-- a name drawn -/
theorem wname_ok {P : Prog} (hT : P.fn "_law_take" = some ⟨.pl, 2, 4, F__law_take⟩) (hP : P.fn "_law_wide_name" = some ⟨.pl, 1, 5, F__law_wide_name⟩) {k : Nat} {S : Sto} {b : Nat} {Q : QE} (hb : S b = some .bx) (h : ∀ x : Str, isNm x = true → Q (.str x) S) : wpCall P (k + 2) .pl "_law_wide_name" [.ref b] S Q xN := by
  refine call_c' hP [some (.ref b), none, none, none, none] rfl rfl ?_
  rw [wpSs_cut 3]
  generalize hR : Sts.drop 3 F__law_wide_name = R
  simp only [F__law_wide_name, Sts.take_s, Sts.take_z, wpSs, wpS, wpE, wpEs, wpO, wpT, wpTs, wpB, wpCs, wpG, wpGs, wpI, wpJ, tgsLen, slot_0, slot_s, set_0, set_s, tp_tup, tp_key, tp_kt, Int.reduceLT, Int.reducePow, Int.reduceNeg, Int.reduceLE, b_add, b_sub, b_mulL, b_mulR, b_modP, b_fdivP, g_add, g_sub, c_lt, c_le, c_gt, c_ge, c_eqi, c_nei, c_eqs, c_nes, c_eqb, c_neb, c_isN, c_isnN, f_max2, f_min2, f_intb, f_int, t_bl, decide_eq_true_eq, decide_eq_false_iff_not, Bool.not_eq_true', Bool.not_eq_false', newL, ctx, int_a, hasF_t hT, true_and]
  intro l hl
  have nbl : b ≠ l := by walk_at "stne"
  refine ⟨bb_s rfl, take_ok hT (by walk_at "stk") (by decide) (by decide) fun n n0 n1 => ?_⟩
  simp only [Int.reduceLT, Int.reducePow, Int.reduceNeg, Int.reduceLE, b_add, b_sub, b_mulL, b_mulR, b_modP, b_fdivP, g_add, g_sub, c_lt, c_le, c_gt, c_ge, c_eqi, c_nei, c_eqs, c_nes, c_eqb, c_neb, c_isN, c_isnN, f_max2, f_min2, f_intb, f_int, t_bl, decide_eq_true_eq, decide_eq_false_iff_not, Bool.not_eq_true', Bool.not_eq_false']
  refine ⟨by omega, by omega, fun p hp => ?_⟩
  have nbp : b ≠ p := by walk_at "stne"
  have nlp : l ≠ p := by walk_at "stne"
  refine lc_map (fun _ y => ∃ x : Str, y = .str x ∧ (x.length = 1 ∧ ∀ c ∈ x.cps.toList, c ∈ letL.cps.toList)) (by rw [rngL_len]; omega) (fun _ => trivial) (fun i d acc e K hK => ?_) (fun ys hl' hy => ?_)
  · simp only [wipeD, List.set, slot_0, slot_s, tp_tup, tp_key, tp_kt]
    refine take_ok hT (by walk_at "stk") (by decide) (by decide) fun m h3 h4 => ?_
    rw [show Str.ofString "abcdefghijklmnopqrstuvwxyz" = letL from rfl, x_ltr h3 h4]
    exact hK _ _ ⟨_, rfl, rfl, ltr_az _ h3 h4⟩ (Abs.refl _)
  obtain ⟨zs, z1, z2, z4⟩ := strs_allR hy
  have z3 : ∀ y ∈ zs, y.length = 1 := fun y hy => (z4 y hy).1
  have haz : ∀ c ∈ (Txt.join (Str.ofString "") zs).cps.toList, c ∈ letL.cps.toList := fun c hc => by
    obtain ⟨z, h1, h2⟩ := join_mem hc
    exact (z4 z h1).2 c h2
  rw [rngL_len] at hl'
  rw [m_join (seq_lst Sto.put_same) z1]
  have hln : zs.length ≤ 8 ∧ 1 ≤ zs.length := by omega
  refine ⟨?_, ?_⟩
  · rw [sum_ones z3, show (Str.ofString "").length = 0 from by decide]; omega
  have hst : 1 ≤ (Txt.join (Str.ofString "") zs).length ∧ (Txt.join (Str.ofString "") zs).length ≤ 8 := by rw [PySem.W.KT.join_ones _ z3]; omega
  generalize Txt.join (Str.ofString "") zs = st at hst haz ⊢
  have hS1 : ((S.put l (.lst wsL)).put p (.lst ys)) b = some .bx := by walk_at "stk"
  have hS2 : ((S.put l (.lst wsL)).put p (.lst ys)) l = some (.lst wsL) := by walk_at "stk"
  have ab : Abs S ((S.put l (.lst wsL)).put p (.lst ys)) := by walk_at "absT"
  show wpSs _ _ R _ [some (.ref b), some (.str letL), some (.ref l), some (.str st), none] ((S.put l (.lst wsL)).put p (.lst ys))
  generalize ((S.put l (.lst wsL)).put p (.lst ys)) = S1 at hS1 hS2 ab
  subst hR
  -- the end
  have tail : ∀ x : Str, 1 ≤ x.length → x.length ≤ 8 → (∀ c ∈ x.cps.toList, c ∈ letL.cps.toList) → wpSs (ctx P (k + 1)) xN (Sts.drop 4 F__law_wide_name) (fin Q) [some (.ref b), some (.str letL), some (.ref l), some (.str x), none] S1 := fun x h1 h2 h3 => by
    simp only [F__law_wide_name, Sts.drop_s, Sts.drop_z, wpSs, wpS, wpE, wpEs, wpO, wpT, wpTs, wpB, wpCs, wpG, wpGs, wpI, wpJ, tgsLen, slot_0, slot_s, set_0, set_s, tp_tup, tp_key, tp_kt, Int.reduceLT, Int.reducePow, Int.reduceNeg, Int.reduceLE, b_add, b_sub, b_mulL, b_mulR, b_modP, b_fdivP, g_add, g_sub, c_lt, c_le, c_gt, c_ge, c_eqi, c_nei, c_eqs, c_nes, c_eqb, c_neb, c_isN, c_isnN, f_max2, f_min2, f_intb, f_int, t_bl, decide_eq_true_eq, decide_eq_false_iff_not, Bool.not_eq_true', Bool.not_eq_false', newL, ctx, int_a]
    intro q hq
    rw [mem_tups (show ([.str (Str.ofString "if"), .str (Str.ofString "to"), .str (Str.ofString "lefts")] : List D).all flatD = true from rfl)]
    cases e : inK x with
    | true =>
      rw [show (([.str (Str.ofString "if"), .str (Str.ofString "to"), .str (Str.ofString "lefts")] : List D).any fun y => eqF y (.str x)) = true from e, x_lst Sto.put_same (d := .str (Str.ofString "tt")) rfl]
      exact fin_rt (ab.trans (Abs.put hq)) (h _ (by decide +kernel))
    | false =>
      rw [show (([.str (Str.ofString "if"), .str (Str.ofString "to"), .str (Str.ofString "lefts")] : List D).any fun y => eqF y (.str x)) = false from e, x_lst Sto.put_same (d := .str x) rfl]
      exact fin_rt (ab.trans (Abs.put hq)) (h x (isNm_of h1 h2 e h3))
  simp only [F__law_wide_name, Sts.drop_s, Sts.drop_z, wpSs, wpS, wpE, wpEs, wpO, wpT, wpTs, wpB, wpCs, wpG, wpGs, wpI, wpJ, tgsLen, slot_0, slot_s, set_0, set_s, tp_tup, tp_key, tp_kt, Int.reduceLT, Int.reducePow, Int.reduceNeg, Int.reduceLE, b_add, b_sub, b_mulL, b_mulR, b_modP, b_fdivP, g_add, g_sub, c_lt, c_le, c_gt, c_ge, c_eqi, c_nei, c_eqs, c_nes, c_eqb, c_neb, c_isN, c_isnN, f_max2, f_min2, f_intb, f_int, t_bl, decide_eq_true_eq, decide_eq_false_iff_not, Bool.not_eq_true', Bool.not_eq_false', newL, ctx, int_a, hasF_t hT, true_and] at tail ⊢
  refine take_ok hT hS1 (by decide) (by decide) fun m m0 m1 => ?_
  simp only [Int.reduceLT, Int.reducePow, Int.reduceNeg, Int.reduceLE, b_add, b_sub, b_mulL, b_mulR, b_modP, b_fdivP, g_add, g_sub, c_lt, c_le, c_gt, c_ge, c_eqi, c_nei, c_eqs, c_nes, c_eqb, c_neb, c_isN, c_isnN, f_max2, f_min2, f_intb, f_int, t_bl, decide_eq_true_eq, decide_eq_false_iff_not, Bool.not_eq_true', Bool.not_eq_false']
  refine ⟨fun _ => ?_, fun _ => tail st hst.1 hst.2 haz⟩
  refine take_ok hT hS1 (by decide) (by decide) fun j j0 j1 => ?_
  obtain ⟨d, e1, e2⟩ := atI_mem (xs := wsL) j0 (by show j < 12; omega)
  obtain ⟨x, rfl, hx⟩ := wsL_nm d e2
  rw [x_lst hS2 e1]
  refine tail x (nm_len hx).1 (nm_len hx).2 fun c hc => ?_
  unfold isNm at hx
  simp only [Bool.and_eq_true] at hx
  exact of_decide_eq_true (List.all_eq_true.mp hx.2 c hc)
/-- names drawn -/
def NmL (xs : List Str) : Prop := 1 ≤ xs.length ∧ xs.length ≤ 100 ∧ ∀ x ∈ xs, isNm x = true
theorem wnames_ok {P : Prog} (hT : P.fn "_law_take" = some ⟨.pl, 2, 4, F__law_take⟩) (hN : P.fn "_law_wide_name" = some ⟨.pl, 1, 5, F__law_wide_name⟩) (hP : P.fn "_law_wide_names" = some ⟨.pl, 1, 3, F__law_wide_names⟩) {k : Nat} {S : Sto} {b : Nat} {Q : QE} (hb : S b = some .bx) (h : ∀ xs p, NmL xs → S p = none → Q (.ref p) (S.put p (.lst (xs.map .str)))) : wpCall P (k + 3) .pl "_law_wide_names" [.ref b] S Q xN := by
  refine call_c' hP [some (.ref b), none, none] rfl rfl ?_
  simp only [F__law_wide_names, wpSs, wpS, wpE, wpEs, wpO, wpT, wpTs, wpB, wpCs, wpG, wpGs, wpI, wpJ, tgsLen, slot_0, slot_s, set_0, set_s, tp_tup, tp_key, tp_kt, Int.reduceLT, Int.reducePow, Int.reduceNeg, Int.reduceLE, b_add, b_sub, b_mulL, b_mulR, b_modP, b_fdivP, g_add, g_sub, c_lt, c_le, c_gt, c_ge, c_eqi, c_nei, c_eqs, c_nes, c_eqb, c_neb, c_isN, c_isnN, f_max2, f_min2, f_intb, f_int, t_bl, decide_eq_true_eq, decide_eq_false_iff_not, Bool.not_eq_true', Bool.not_eq_false', newL, ctx, int_a, hasF_t hT, hasF_t hN, true_and]
  intro p hp
  have nbp : b ≠ p := by walk_at "stne"
  refine take_ok hT (by walk_at "stk") (by decide) (by decide) fun n n0 n1 => ?_
  simp only [Int.reduceLT, Int.reducePow, Int.reduceNeg, Int.reduceLE, b_add, b_sub, b_mulL, b_mulR, b_modP, b_fdivP, g_add, g_sub, c_lt, c_le, c_gt, c_ge, c_eqi, c_nei, c_eqs, c_nes, c_eqb, c_neb, c_isN, c_isnN, f_max2, f_min2, f_intb, f_int, t_bl, decide_eq_true_eq, decide_eq_false_iff_not, Bool.not_eq_true', Bool.not_eq_false']
  refine ⟨by omega, by omega, ?_⟩
  refine for_gen (fun i σ S' => ∃ (xs : List Str) (u2 : Option D), xs.length ≤ i ∧ (0 < i → 1 ≤ xs.length) ∧ (∀ x ∈ xs, isNm x = true) ∧ S' = S.put p (.dct false (xs.map trueAt)) ∧ σ = [some (.ref b), some (.ref p), u2]) (fun i d σ S' e hI => ⟨trivial, fun K hK => ?_⟩) (fun σ S' hI => ⟨trivial, ?_⟩) ⟨[], _, Nat.le_refl _, fun z => absurd z (Nat.lt_irrefl _), (fun x hx => by cases hx), rfl, rfl⟩
  · obtain ⟨xs, u2, x1, x2, x3, rfl, rfl⟩ := hI
    obtain ⟨rfl, hi⟩ := rngL_get e
    simp only [List.set, slot_s, slot_0, tp_tup, tp_key, tp_kt]
    refine wname_ok hT hN (k := k) (by walk_at "stk") fun x hx => ?_
    rw [p_dct Sto.put_same, putD_true, Sto.put_put]
    refine ⟨rfl, by rw [List.length_map, sizeLine_eq]; omega, hK _ _ _ ⟨nmAdd xs x, _, ?_, fun _ => ?_, fun y hy => ?_, rfl, rfl⟩ (Abs.refl _)⟩
    · unfold nmAdd; split
      · omega
      · rw [List.length_append]; show xs.length + 1 ≤ i + 1; omega
    · unfold nmAdd; split
      · rename_i hm
        have hm : x ∈ xs := by simpa using hm
        exact List.length_pos_of_mem hm
      · rw [List.length_append]; show 1 ≤ xs.length + 1; omega
    · unfold nmAdd at hy; split at hy
      · exact x3 y hy
      · rcases List.mem_append.mp hy with hy | hy
        · exact x3 y hy
        · cases List.mem_singleton.mp hy; exact hx
  · obtain ⟨xs, u2, x1, x2, x3, rfl, rfl⟩ := hI
    rw [rngL_len] at x1 x2
    simp only [slot_s, slot_0, tp_tup, tp_key, tp_kt]
    rw [f_listd Sto.put_same, show ((xs.map trueAt).map fun kv : D × D => kv.1) = xs.map D.str from by rw [List.map_map]; rfl]
    intro q hq
    exact fin_rt (S := S.put q (.lst (xs.map .str))) (by walk_at "absT") (h xs q ⟨x2 (by omega), by omega, x3⟩ (by walk_at "stn"))
theorem maps_of {α : Type} {f : α → D} {R : α → Prop} : ∀ {ys : List D}, (∀ (i : Nat) y, ys[i]? = some y → ∃ a, R a ∧ y = f a) → ∃ as : List α, ys = as.map f ∧ ∀ a ∈ as, R a
  | [], _ => ⟨[], rfl, fun a ha => by cases ha⟩
  | y :: ys, h => by
    obtain ⟨a, h1, rfl⟩ := h 0 y rfl
    obtain ⟨as, rfl, h2⟩ := maps_of (ys := ys) fun i z e => h (i + 1) z (by simpa using e)
    exact ⟨a :: as, rfl, fun x hx => by
      rcases List.mem_cons.mp hx with rfl | hx
      · exact h1
      · exact h2 x hx⟩
/-- an atom drawn -/
def waD (a : Str × List D) : D := .tup [.str a.1, .tup a.2]
structure WAt (a : Str × List D) : Prop where
  nm : isNm a.1 = true
  ne : 1 ≤ a.2.length
  le : a.2.length ≤ 3
  tm : ∀ t ∈ a.2, Tm WW WV 4 t ∧ (tw t).length ≤ 15
section
variable {P : Prog} (hT : P.fn "_law_take" = some ⟨.pl, 2, 4, F__law_take⟩) (hN : P.fn "_law_wide_name" = some ⟨.pl, 1, 5, F__law_wide_name⟩) (hP : P.fn "_law_wide_term" = some ⟨.pl, 4, 8, F__law_wide_term⟩) {xs : List Str} (hx : NmL xs) {b l : Nat}
include hT hN hP hx
theorem wterm_ok : ∀ (n : Nat) {k r : Nat} {S : Sto} {Q : QE}, 1 ≤ r → r ≤ 100 → S b = some .bx → S l = some (.lst (xs.map .str)) → (∀ d, Tm WW WV n d → (tw d).length ≤ 3 * r → Q d S) → wpCall P (k + n + 3) .pl "_law_wide_term" [.ref b, .ref l, .int (r : Nat), .int (n : Nat)] S Q xN := by
  have step : ∀ (n : Nat) {k r : Nat} {S : Sto} {Q : QE}, 1 ≤ r → r ≤ 100 → S b = some .bx → S l = some (.lst (xs.map .str)) → (∀ d, Tm WW WV n d → (tw d).length ≤ 3 * r → Q d S) →
      (1 ≤ n → ∀ {r' : Nat} {S' : Sto} {Q : QE}, 1 ≤ r' → r' ≤ 100 → S' b = some .bx → S' l = some (.lst (xs.map .str)) → (∀ d, Tm WW WV (n - 1) d → (tw d).length ≤ 3 * r' → Q d S') → wpCall P (k + n + 2) .pl "_law_wide_term" [.ref b, .ref l, .int (r' : Nat), .int ((n : Nat) - 1)] S' Q xN) →
      wpCall P (k + n + 3) .pl "_law_wide_term" [.ref b, .ref l, .int (r : Nat), .int (n : Nat)] S Q xN := by
    intro n k r S Q hr hr2 hb hl h ih
    refine call_c' (k := k + n + 2) hP [some (.ref b), some (.ref l), some (.int (r : Nat)), some (.int (n : Nat)), none, none, none, none] rfl rfl ?_
    have nm : ∀ {σ : Env}, (∃ u4 u5 u6 u7, σ = [some (.ref b), some (.ref l), some (.int (r : Nat)), some (.int (n : Nat)), u4, u5, u6, u7]) → wpE (ctx P (k + n + 2)) xN (.idx (.var 1) (.cal "_law_take" (.cons (.var 0) (.cons (.blt .len (.cons (.var 1) .nil)) .nil)))) σ S (fin Q).rt := fun {σ} hσ => by
      obtain ⟨u4, u5, u6, u7, rfl⟩ := hσ
      simp only [wpSs, wpS, wpE, wpEs, wpO, wpT, wpTs, wpB, wpCs, wpG, wpGs, wpI, wpJ, tgsLen, slot_0, slot_s, set_0, set_s, tp_tup, tp_key, tp_kt, Int.reduceLT, Int.reducePow, Int.reduceNeg, Int.reduceLE, b_add, b_sub, b_mulL, b_mulR, b_modP, b_fdivP, g_add, g_sub, c_lt, c_le, c_gt, c_ge, c_eqi, c_nei, c_eqs, c_nes, c_eqb, c_neb, c_isN, c_isnN, f_max2, f_min2, f_intb, f_int, t_bl, decide_eq_true_eq, decide_eq_false_iff_not, Bool.not_eq_true', Bool.not_eq_false', newL, ctx, int_a, hasF_t hT, true_and]
      rw [f_lenl hl, List.length_map]
      obtain ⟨x1, x2, x3⟩ := hx
      refine take_ok hT hb (by omega) (by omega) fun j j0 j1 => ?_
      obtain ⟨d, e1, e2⟩ := atI_mem (xs := xs.map D.str) j0 (by rw [List.length_map]; omega)
      obtain ⟨x, hx, rfl⟩ := List.mem_map.mp e2
      rw [x_lst hl e1]
      refine fin_same (h _ ?_ ?_)
      · cases n <;> exact .inl ⟨x, x3 x hx, rfl⟩
      · show 1 ≤ _; omega
    rw [wpSs_cut 1]
    generalize hR : Sts.drop 1 F__law_wide_term = R
    simp only [F__law_wide_term, Sts.take_s, Sts.take_z, wpSs, wpS, wpE, wpEs, wpO, wpT, wpTs, wpB, wpCs, wpG, wpGs, wpI, wpJ, tgsLen, slot_0, slot_s, set_0, set_s, tp_tup, tp_key, tp_kt, Int.reduceLT, Int.reducePow, Int.reduceNeg, Int.reduceLE, b_add, b_sub, b_mulL, b_mulR, b_modP, b_fdivP, g_add, g_sub, c_lt, c_le, c_gt, c_ge, c_eqi, c_nei, c_eqs, c_nes, c_eqb, c_neb, c_isN, c_isnN, f_max2, f_min2, f_intb, f_int, t_bl, decide_eq_true_eq, decide_eq_false_iff_not, Bool.not_eq_true', Bool.not_eq_false', newL, ctx, int_a, hasF_t hT, hasF_t hN, hasF_t hP, true_and] at nm ⊢
    refine ⟨fun h2 => ⟨fun h1 => take_ok hT hb (by decide) (by decide) fun m m0 m1 => ?_, fun _ => ⟨fun _ => nm ⟨none, none, none, none, rfl⟩, fun z => (by cases z)⟩⟩, fun _ => ⟨fun _ => nm ⟨none, none, none, none, rfl⟩, fun z => (by cases z)⟩⟩
    simp only [Int.reduceLT, Int.reducePow, Int.reduceNeg, Int.reduceLE, b_add, b_sub, b_mulL, b_mulR, b_modP, b_fdivP, g_add, g_sub, c_lt, c_le, c_gt, c_ge, c_eqi, c_nei, c_eqs, c_nes, c_eqb, c_neb, c_isN, c_isnN, f_max2, f_min2, f_intb, f_int, t_bl, decide_eq_true_eq, decide_eq_false_iff_not, Bool.not_eq_true', Bool.not_eq_false']
    refine ⟨fun _ => nm ⟨none, none, none, none, rfl⟩, fun _ => ?_⟩
    have hn : 1 ≤ n := by omega
    have ih := fun {r' : Nat} {S' : Sto} {Q : QE} => ih hn (r' := r') (S' := S') (Q := Q)
    subst hR
    simp only [F__law_wide_term, Sts.drop_s, Sts.drop_z, wpSs, wpS, wpE, wpEs, wpO, wpT, wpTs, wpB, wpCs, wpG, wpGs, wpI, wpJ, tgsLen, slot_0, slot_s, set_0, set_s, tp_tup, tp_key, tp_kt, Int.reduceLT, Int.reducePow, Int.reduceNeg, Int.reduceLE, b_add, b_sub, b_mulL, b_mulR, b_modP, b_fdivP, g_add, g_sub, c_lt, c_le, c_gt, c_ge, c_eqi, c_nei, c_eqs, c_nes, c_eqb, c_neb, c_isN, c_isnN, f_max2, f_min2, f_intb, f_int, t_bl, decide_eq_true_eq, decide_eq_false_iff_not, Bool.not_eq_true', Bool.not_eq_false', newL, ctx, int_a, hasF_t hT, hasF_t hN, hasF_t hP, true_and]
    intro p hp
    refine ⟨rfl, ?_⟩
    have nbp : b ≠ p := by walk_at "stne"
    have nlp : l ≠ p := by walk_at "stne"
    refine take_ok hT (by walk_at "stk") (by decide) (by decide) fun c c0 c1 => ?_
    refine ⟨by omega, by omega, ?_⟩
    refine for_gen (fun i σ S' => ∃ (ts : List D) (left : Nat) (u6 u7 : Option D), S' = S.put p (.lst ts) ∧ ts.length ≤ i ∧ (∀ t ∈ ts, Tm WW WV (n - 1) t) ∧ (twS ts).length + 3 * left ≤ 3 * (r - 1) ∧ σ = [some (.ref b), some (.ref l), some (.int (r : Nat)), some (.int (n : Nat)), some (.int (left : Nat)), some (.ref p), u6, u7]) (fun i d σ S' e hI => ⟨trivial, fun K hK => ?_⟩) (fun σ S' hI => ⟨trivial, ?_⟩) ⟨[], r - 1, none, none, rfl, Nat.le_refl _, (fun t ht => by cases ht), by show 0 + _ ≤ _; omega, by rw [show ((r : Nat) : Int) - 1 = ((r - 1 : Nat) : Int) by omega]⟩
    · obtain ⟨ts, left, u6, u7, rfl, h3, h4, h5, rfl⟩ := hI
      obtain ⟨rfl, hi⟩ := rngL_get e
      simp only [List.set, slot_s, slot_0, tp_tup, tp_key, tp_kt]
      simp only [Int.reduceLT, Int.reducePow, Int.reduceNeg, Int.reduceLE, b_add, b_sub, b_mulL, b_mulR, b_modP, b_fdivP, g_add, g_sub, c_lt, c_le, c_gt, c_ge, c_eqi, c_nei, c_eqs, c_nes, c_eqb, c_neb, c_isN, c_isnN, f_max2, f_min2, f_intb, f_int, t_bl, decide_eq_true_eq, decide_eq_false_iff_not, Bool.not_eq_true', Bool.not_eq_false']
      refine ⟨fun hlt => ?_, fun _ => hK _ _ _ ⟨ts, left, _, _, rfl, by omega, h4, h5, rfl⟩ (Abs.refl _)⟩
      refine take_ok hT (by walk_at "stk") (by omega) (by omega) fun w w0 w1 => ?_
      simp only [Int.reduceLT, Int.reducePow, Int.reduceNeg, Int.reduceLE, b_add, b_sub, b_mulL, b_mulR, b_modP, b_fdivP, g_add, g_sub, c_lt, c_le, c_gt, c_ge, c_eqi, c_nei, c_eqs, c_nes, c_eqb, c_neb, c_isN, c_isnN, f_max2, f_min2, f_intb, f_int, t_bl, decide_eq_true_eq, decide_eq_false_iff_not, Bool.not_eq_true', Bool.not_eq_false']
      obtain ⟨w, rfl⟩ := Int.eq_ofNat_of_zero_le w0
      refine ⟨bb_l Sto.put_same rfl, ?_⟩
      rw [show (1 : Int) + ((w : Nat) : Int) = ((1 + w : Nat) : Int) by omega]
      refine ih (by omega) (by omega) (by walk_at "stk") (by walk_at "stk") fun d hd hdl => ?_
      rw [m_app Sto.put_same, Sto.put_put]
      refine ⟨by rw [sizeLine_eq]; omega, ?_⟩
      refine hK _ _ _ ⟨ts ++ [d], left - (1 + w), _, _, rfl, by rw [List.length_append]; show ts.length + 1 ≤ i + 1; omega, fun t ht => ?_, ?_, by rw [show ((left : Nat) : Int) - ((1 + w : Nat) : Int) = ((left - (1 + w) : Nat) : Int) by omega]⟩ (Abs.refl _)
      · rcases List.mem_append.mp ht with ht | ht
        · exact h4 t ht
        · cases List.mem_singleton.mp ht; exact hd
      · rw [twS_app, List.length_append, show twS [d] = tw d ++ [] from rfl, List.append_nil]; omega
    · obtain ⟨ts, left, u6, u7, rfl, h3, h4, h5, rfl⟩ := hI
      rw [rngL_len] at h3
      simp only [slot_s, slot_0, tp_tup, tp_key, tp_kt]
      refine wname_ok hT hN (k := k + n) (by walk_at "stk") fun x hx => ?_
      rw [f_tupl Sto.put_same, b_addt]
      refine ⟨by rw [sizeLine_eq]; show 1 + ts.length ≤ _; omega, fin_rt (S := S) (by walk_at "absT") (h _ ?_ ?_)⟩
      · obtain ⟨m, rfl⟩ : ∃ m, n = m + 1 := ⟨n - 1, by omega⟩
        exact .inr ⟨x, ts, ⟨hx, by omega⟩, rfl, h4⟩
      · show (oW :: x :: (twS ts ++ [cW])).length ≤ _
        simp only [List.length_cons, List.length_append, List.length_nil]
        omega
  intro n
  induction n with
  | zero =>
    intro k r S Q hr hr2 hb hl h
    exact step 0 hr hr2 hb hl h (fun z => absurd z (by decide))
  | succ n ih =>
    intro k r S Q hr hr2 hb hl h
    refine step (n + 1) hr hr2 hb hl h fun _ r' S' Q h1 h2 h3 h4 h5 => ?_
    have := ih (k := k) h1 h2 h3 h4 h5
    rw [show ((n + 1 : Nat) : Int) - 1 = (n : Nat) by omega]
    exact this
end

section
variable {P : Prog} (hT : P.fn "_law_take" = some ⟨.pl, 2, 4, F__law_take⟩) (hN : P.fn "_law_wide_name" = some ⟨.pl, 1, 5, F__law_wide_name⟩) (hW : P.fn "_law_wide_term" = some ⟨.pl, 4, 8, F__law_wide_term⟩) {xs : List Str} (hx : NmL xs) {b l : Nat}
include hT hN hW hx
theorem wterms_ok (hP : P.fn "_law_wide_terms" = some ⟨.pl, 3, 4, F__law_wide_terms⟩) {m : Nat} (hm : 1 ≤ m) (hm2 : m ≤ 50) {k : Nat} {S : Sto} {Q : QE} (hb : S b = some .bx) (hl : S l = some (.lst (xs.map .str))) (h : ∀ ts : List D, 1 ≤ ts.length → ts.length ≤ m → (∀ t ∈ ts, Tm WW WV 4 t ∧ (tw t).length ≤ 15) → Q (.tup ts) S) : wpCall P (k + 8) .pl "_law_wide_terms" [.ref b, .ref l, .int (m : Nat)] S Q xN := by
  refine call_c' (k := k + 7) hP [some (.ref b), some (.ref l), some (.int (m : Nat)), none] rfl rfl ?_
  simp only [F__law_wide_terms, wpSs, wpS, wpE, wpEs, wpO, wpT, wpTs, wpB, wpCs, wpG, wpGs, wpI, wpJ, tgsLen, slot_0, slot_s, set_0, set_s, tp_tup, tp_key, tp_kt, Int.reduceLT, Int.reducePow, Int.reduceNeg, Int.reduceLE, b_add, b_sub, b_mulL, b_mulR, b_modP, b_fdivP, g_add, g_sub, c_lt, c_le, c_gt, c_ge, c_eqi, c_nei, c_eqs, c_nes, c_eqb, c_neb, c_isN, c_isnN, f_max2, f_min2, f_intb, f_int, t_bl, decide_eq_true_eq, decide_eq_false_iff_not, Bool.not_eq_true', Bool.not_eq_false', newL, ctx, int_a, hasF_t hT, hasF_t hW, true_and]
  refine take_ok hT hb (by omega) (by omega) fun c c0 c1 => ?_
  simp only [Int.reduceLT, Int.reducePow, Int.reduceNeg, Int.reduceLE, b_add, b_sub, b_mulL, b_mulR, b_modP, b_fdivP, g_add, g_sub, c_lt, c_le, c_gt, c_ge, c_eqi, c_nei, c_eqs, c_nes, c_eqb, c_neb, c_isN, c_isnN, f_max2, f_min2, f_intb, f_int, t_bl, decide_eq_true_eq, decide_eq_false_iff_not, Bool.not_eq_true', Bool.not_eq_false']
  refine ⟨by omega, by omega, fun p hp => ?_⟩
  have nbp : b ≠ p := by walk_at "stne"
  have nlp : l ≠ p := by walk_at "stne"
  refine lc_map (fun _ y => Tm WW WV 4 y ∧ (tw y).length ≤ 15) (by rw [rngL_len]; omega) (fun _ => trivial) (fun i d acc e K hK => ?_) (fun ys hl' hy => ?_)
  · simp only [wipeD, List.set, slot_0, slot_s, tp_tup, tp_key, tp_kt]
    refine take_ok hT (by walk_at "stk") (by decide) (by decide) fun w w0 w1 => ?_
    simp only [Int.reduceLT, Int.reducePow, Int.reduceNeg, Int.reduceLE, b_add, b_sub, b_mulL, b_mulR, b_modP, b_fdivP, g_add, g_sub, c_lt, c_le, c_gt, c_ge, c_eqi, c_nei, c_eqs, c_nes, c_eqb, c_neb, c_isN, c_isnN, f_max2, f_min2, f_intb, f_int, t_bl, decide_eq_true_eq, decide_eq_false_iff_not, Bool.not_eq_true', Bool.not_eq_false']
    obtain ⟨w, rfl⟩ := Int.eq_ofNat_of_zero_le w0
    rw [show (1 : Int) + ((w : Nat) : Int) = ((1 + w : Nat) : Int) by omega]
    refine wterm_ok hT hN hW hx 4 (k := k) (by omega) (by omega) (by walk_at "stk") (by walk_at "stk") fun d hd hdl => hK _ _ ⟨hd, by omega⟩ (Abs.refl _)
  · rw [rngL_len] at hl'
    rw [f_tupl Sto.put_same]
    refine fin_rt (S := S) (by walk_at "absT") (h ys (by omega) (by omega) fun t ht => ?_)
    obtain ⟨i, hi⟩ := List.mem_iff_getElem?.mp ht
    exact hy i t hi
theorem watom_ok (hTs : P.fn "_law_wide_terms" = some ⟨.pl, 3, 4, F__law_wide_terms⟩) (hP : P.fn "_law_wide_atom" = some ⟨.pl, 2, 2, F__law_wide_atom⟩) {k : Nat} {S : Sto} {Q : QE} (hb : S b = some .bx) (hl : S l = some (.lst (xs.map .str))) (h : ∀ a, WAt a → Q (waD a) S) : wpCall P (k + 9) .pl "_law_wide_atom" [.ref b, .ref l] S Q xN := by
  refine call_c' (k := k + 8) hP [some (.ref b), some (.ref l)] rfl rfl ?_
  simp only [F__law_wide_atom, wpSs, wpS, wpE, wpEs, wpO, wpT, wpTs, wpB, wpCs, wpG, wpGs, wpI, wpJ, tgsLen, slot_0, slot_s, set_0, set_s, tp_tup, tp_key, tp_kt, Int.reduceLT, Int.reducePow, Int.reduceNeg, Int.reduceLE, b_add, b_sub, b_mulL, b_mulR, b_modP, b_fdivP, g_add, g_sub, c_lt, c_le, c_gt, c_ge, c_eqi, c_nei, c_eqs, c_nes, c_eqb, c_neb, c_isN, c_isnN, f_max2, f_min2, f_intb, f_int, t_bl, decide_eq_true_eq, decide_eq_false_iff_not, Bool.not_eq_true', Bool.not_eq_false', newL, ctx, int_a, hasF_t hN, hasF_t hTs, true_and]
  refine wname_ok hT hN (k := k + 6) hb fun x hxn => ?_
  refine wterms_ok hT hN hW hx hTs (m := 3) (by decide) (by decide) (k := k) hb hl fun ts t1 t2 t3 => ?_
  exact fin_same (h (x, ts) ⟨hxn, t1, t2, t3⟩)
theorem wclaim_ok (hTs : P.fn "_law_wide_terms" = some ⟨.pl, 3, 4, F__law_wide_terms⟩) (hA : P.fn "_law_wide_atom" = some ⟨.pl, 2, 2, F__law_wide_atom⟩) (hP : P.fn "_law_wide_claim" = some ⟨.pl, 2, 4, F__law_wide_claim⟩) {k : Nat} {S : Sto} {Q : QE} (hb : S b = some .bx) (hl : S l = some (.lst (xs.map .str)))
    (h : ∀ as bs : List (Str × List D), as.length ≤ 9 → 1 ≤ bs.length → bs.length ≤ 9 → (∀ a ∈ as ++ bs, WAt a) → Q (.tup [.tup (as.map waD), .tup (bs.map waD)]) S) : wpCall P (k + 10) .pl "_law_wide_claim" [.ref b, .ref l] S Q xN := by
  refine call_c' (k := k + 9) hP [some (.ref b), some (.ref l), none, none] rfl rfl ?_
  simp only [F__law_wide_claim, wpSs, wpS, wpE, wpEs, wpO, wpT, wpTs, wpB, wpCs, wpG, wpGs, wpI, wpJ, tgsLen, slot_0, slot_s, set_0, set_s, tp_tup, tp_key, tp_kt, Int.reduceLT, Int.reducePow, Int.reduceNeg, Int.reduceLE, b_add, b_sub, b_mulL, b_mulR, b_modP, b_fdivP, g_add, g_sub, c_lt, c_le, c_gt, c_ge, c_eqi, c_nei, c_eqs, c_nes, c_eqb, c_neb, c_isN, c_isnN, f_max2, f_min2, f_intb, f_int, t_bl, decide_eq_true_eq, decide_eq_false_iff_not, Bool.not_eq_true', Bool.not_eq_false', newL, ctx, int_a, hasF_t hT, hasF_t hA, true_and]
  refine take_ok hT hb (by decide) (by decide) fun c c0 c1 => ?_
  refine ⟨by omega, by omega, fun p hp => ?_⟩
  have nbp : b ≠ p := by walk_at "stne"
  have nlp : l ≠ p := by walk_at "stne"
  refine lc_map (fun _ y => ∃ a, WAt a ∧ y = waD a) (by rw [rngL_len]; omega) (fun _ => trivial) (fun i d acc e K hK => ?_) (fun ys hl' hy => ?_)
  · simp only [wipeD, List.set, slot_0, slot_s, tp_tup, tp_key, tp_kt]
    exact watom_ok hT hN hW hx hTs hA (k := k) (by walk_at "stk") (by walk_at "stk") fun a ha => hK _ _ ⟨a, ha, rfl⟩ (Abs.refl _)
  rw [rngL_len] at hl'
  obtain ⟨as, rfl, has⟩ := maps_of hy
  rw [f_tupl Sto.put_same]
  refine take_ok hT (by walk_at "stk") (by decide) (by decide) fun c' c0' c1' => ?_
  simp only [Int.reduceLT, Int.reducePow, Int.reduceNeg, Int.reduceLE, b_add, b_sub, b_mulL, b_mulR, b_modP, b_fdivP, g_add, g_sub, c_lt, c_le, c_gt, c_ge, c_eqi, c_nei, c_eqs, c_nes, c_eqb, c_neb, c_isN, c_isnN, f_max2, f_min2, f_intb, f_int, t_bl, decide_eq_true_eq, decide_eq_false_iff_not, Bool.not_eq_true', Bool.not_eq_false']
  refine ⟨by omega, by omega, fun q hq => ?_⟩
  have nbq : b ≠ q := by walk_at "stne"
  have nlq : l ≠ q := by walk_at "stne"
  refine lc_map (fun _ y => ∃ a, WAt a ∧ y = waD a) (by rw [rngL_len]; omega) (fun _ => trivial) (fun i d acc e K hK => ?_) (fun ys hl2 hy => ?_)
  · simp only [wipeD, List.set, slot_0, slot_s, tp_tup, tp_key, tp_kt]
    exact watom_ok hT hN hW hx hTs hA (k := k) (by walk_at "stk") (by walk_at "stk") fun a ha => hK _ _ ⟨a, ha, rfl⟩ (Abs.refl _)
  rw [rngL_len] at hl2
  obtain ⟨bs, rfl, hbs⟩ := maps_of hy
  rw [f_tupl Sto.put_same]
  rw [List.length_map] at hl' hl2
  refine fin_rt (S := S) (by walk_at "absT") (h as bs (by omega) (by omega) (by omega) fun a ha => ?_)
  rcases List.mem_append.mp ha with ha | ha
  · exact has a ha
  · exact hbs a ha
end

/-! ### terms, atoms, claims written -/
theorem tw_split {n : Nat} {d : D} (h : Tm WW WV n d) : (∃ x, isNm x = true ∧ d = .str x) ∨ ∃ w ts, isNm w = true ∧ ts.length ≤ 100 ∧ d = .tup (.str w :: ts) ∧ 0 < n + 1 ∧ ∀ t ∈ ts, Tm WW WV (n - 1) t := by
  cases n with
  | zero =>
    rcases h with h | ⟨w, h1, h2⟩
    · exact .inl h
    · exact .inr ⟨w, [], h1.1, Nat.zero_le _, h2, Nat.succ_pos _, fun t h => by cases h⟩
  | succ n =>
    rcases h with h | ⟨w, ts, h1, h2, h3⟩
    · exact .inl h
    · exact .inr ⟨w, ts, h1.1, h1.2, h2, Nat.succ_pos _, h3⟩
theorem twS_take_le (ts : List D) (i : Nat) : (twS (ts.take i)).length ≤ (twS ts).length := by
  have := congrArg List.length (twS_app (ts.take i) (ts.drop i))
  rw [List.take_append_drop, List.length_append] at this
  omega
theorem twS_le {ts : List D} {t : D} (h : t ∈ ts) : (tw t).length ≤ (twS ts).length := by
  obtain ⟨a, b, rfl⟩ := List.append_of_mem h
  rw [twS_app, List.length_append]
  show _ ≤ _ + (tw t ++ twS b).length
  rw [List.length_append]; omega
theorem take_snoc {α : Type} {xs : List α} {i : Nat} {x : α} (h : xs[i]? = some x) : xs.take (i + 1) = xs.take i ++ [x] := by
  rw [List.take_succ, h]; rfl
theorem twords_ok {P : Prog} (g : P.gl "str" = some (.ty "str")) (hP : P.fn "_law_term_words" = some ⟨.pl, 1, 3, F__law_term_words⟩) : ∀ (n : Nat) {d : D}, Tm WW WV n d → (tw d).length ≤ 1000 → ∀ {k : Nat} {S : Sto} {Q : QE}, (∀ p, S p = none → Q (.ref p) (S.put p (.lst ((tw d).map .str)))) → wpCall P (k + n + 1) .pl "_law_term_words" [d] S Q xN := by
  have step : ∀ (n : Nat) {d : D}, Tm WW WV n d → (tw d).length ≤ 1000 → ∀ {k : Nat} {S : Sto} {Q : QE}, (∀ p, S p = none → Q (.ref p) (S.put p (.lst ((tw d).map .str)))) →
      (1 ≤ n → ∀ {t : D}, Tm WW WV (n - 1) t → (tw t).length ≤ 1000 → ∀ {S : Sto} {Q : QE}, (∀ p, S p = none → Q (.ref p) (S.put p (.lst ((tw t).map .str)))) → wpCall P (k + n) .pl "_law_term_words" [t] S Q xN) →
      wpCall P (k + n + 1) .pl "_law_term_words" [d] S Q xN := by
    intro n d hd hdl k S Q h ih
    refine call_c' (k := k + n) hP [some d, none, none] rfl rfl ?_
    simp only [F__law_term_words, wpSs, wpS, wpE, wpEs, wpO, wpT, wpTs, wpB, wpCs, wpG, wpGs, wpI, wpJ, tgsLen, slot_0, slot_s, set_0, set_s, tp_tup, tp_key, tp_kt, Int.reduceLT, Int.reducePow, Int.reduceNeg, Int.reduceLE, b_add, b_sub, b_mulL, b_mulR, b_modP, b_fdivP, g_add, g_sub, c_lt, c_le, c_gt, c_ge, c_eqi, c_nei, c_eqs, c_nes, c_eqb, c_neb, c_isN, c_isnN, f_max2, f_min2, f_intb, f_int, t_bl, decide_eq_true_eq, decide_eq_false_iff_not, Bool.not_eq_true', Bool.not_eq_false', newL, ctx, int_a, hasF_t hP, true_and, g]
    rcases tw_split hd with ⟨x, hx, rfl⟩ | ⟨w, ts, hw, htl, rfl, _, ht⟩
    · rw [is_str_s]
      simp only [t_bl]
      refine ⟨fun _ p hp => fin_same (h p hp), fun z => (by cases z)⟩
    · rw [is_str_t]
      simp only [t_bl, x_t0, s_tup, cut1]
      refine ⟨fun z => (by cases z), fun _ p hp => ?_⟩
      have hle : 3 + (twS ts).length ≤ 1000 := by
        have : (oW :: w :: (twS ts ++ [cW])).length ≤ 1000 := hdl
        simp only [List.length_cons, List.length_append, List.length_nil] at this
        omega
      simp only [i_tup]
      refine for_gen (fun i σ S' => ∃ (u2 : Option D), S' = S.put p (.lst ((oW :: w :: twS (ts.take i)).map .str)) ∧ σ = [some (.tup (.str w :: ts)), some (.ref p), u2]) (fun i t σ S' e hI => ⟨trivial, fun K hK => ?_⟩) (fun σ S' hI => ⟨trivial, ?_⟩) ⟨none, rfl, rfl⟩
      · obtain ⟨u2, rfl, rfl⟩ := hI
        have htm := List.mem_of_getElem? e
        have hn : 1 ≤ n := by
          rcases Nat.eq_zero_or_pos n with rfl | h
          · rcases hd with ⟨x, _, z⟩ | ⟨w', _, z⟩
            · cases z
            · cases z; cases htm
          · exact h
        simp only [List.set, slot_s, slot_0, tp_tup, tp_key, tp_kt]
        refine ⟨bb_l Sto.put_same rfl, ?_⟩
        refine ih hn (ht t htm) (by have := twS_le htm; omega) fun q hq => ?_
        have npq : p ≠ q := by walk_at "stne"
        have tk := twS_take_le ts i
        have tl := twS_le htm
        rw [m_ext (es := (tw t).map .str) (by walk_at "stk") (by unfold extOf; simp only [Sto.put_same])]
        refine ⟨by simp only [List.length_map, List.length_cons]; rw [sizeLine_eq]; omega, hK _ _ _ ⟨_, rfl, rfl⟩ ?_⟩
        rw [take_snoc e, twS_app, show twS [t] = tw t ++ [] from rfl, List.append_nil, show (List.map D.str (oW :: w :: twS (ts.take i)) ++ List.map D.str (tw t)) = (oW :: w :: (twS (ts.take i) ++ tw t)).map D.str from by simp]
        walk_at "absT"
      · obtain ⟨u2, rfl, rfl⟩ := hI
        rw [List.take_length]
        simp only [slot_s, slot_0, tp_tup, tp_key, tp_kt]
        intro q hq
        have npq : p ≠ q := by walk_at "stne"
        rw [b_addl (ds := (oW :: w :: twS ts).map .str) (es := [.str cW]) (by walk_at "stk") Sto.put_same]
        refine ⟨by simp only [List.length_map, List.length_cons, List.length_nil]; rw [sizeLine_eq]; omega, fun r hr => ?_⟩
        have e : (List.map D.str (oW :: w :: twS ts) ++ [.str cW]) = (tw (.tup (.str w :: ts))).map D.str := by rw [tw_tup]; simp
        rw [e]
        exact fin_rt (S := S.put r (.lst ((tw (.tup (.str w :: ts))).map D.str))) (by walk_at "absT") (h r (by walk_at "stn"))
  intro n
  induction n with
  | zero => intro d hd hdl k S Q h; exact step 0 hd hdl h fun z => absurd z (by decide)
  | succ n ih =>
    intro d hd hdl k S Q h
    exact step (n + 1) hd hdl h fun _ t h1 h2 S Q h3 => ih h1 h2 h3
/-- a term's text -/
abbrev txD (d : D) : Str := Txt.join spW (tw d)
theorem txD_tup (w : Str) {ts : List D} {n : Nat} (h : ∀ t ∈ ts, Tm WW WV n t) : Txt.join spW (oW :: w :: (ts.map txD ++ [cW])) = txD (.tup (.str w :: ts)) := by
  have e : oW :: w :: (ts.map txD ++ [cW]) = ([oW] :: [w] :: (ts.map tw ++ [[cW]])).map (Txt.join spW) := by
    simp only [List.map_cons, List.map_append, jn_one, List.map_nil, List.map_map]
    rfl
  rw [e, jn_flat]
  · unfold txD
    rw [tw_tup, twS_map]
    simp
  · intro xs hxs
    simp only [List.mem_cons, List.mem_append, List.not_mem_nil, or_false, List.mem_map] at hxs
    rcases hxs with rfl | rfl | ⟨t, ht, rfl⟩ | rfl
    · simp
    · simp
    · exact tw_ne (h t ht)
    · simp
theorem txD_len {n : Nat} {d : D} (h : Tm WW WV n d) (hl : (tw d).length ≤ 1000) : (txD d).length ≤ 9000 := by
  have := jn_len (y := spW) (B := 8) (ws := tw d) fun w hw => (tw_wd h w hw).len
  have e : spW.length = 1 := by decide
  rw [e] at this
  show (Txt.join spW (tw d)).length ≤ 9000
  omega
theorem ttext_ok {P : Prog} (g : P.gl "str" = some (.ty "str")) (hP : P.fn "term_text" = some ⟨.pl, 1, 2, F_term_text⟩) : ∀ (n : Nat) {d : D}, Tm WW WV n d → (tw d).length ≤ 1000 → ∀ {k : Nat} {S : Sto} {Q : QE}, Q (.str (txD d)) S → wpCall P (k + n + 1) .pl "term_text" [d] S Q xN := by
  have step : ∀ (n : Nat) {d : D}, Tm WW WV n d → (tw d).length ≤ 1000 → ∀ {k : Nat} {S : Sto} {Q : QE}, Q (.str (txD d)) S →
      (1 ≤ n → ∀ {t : D}, Tm WW WV (n - 1) t → (tw t).length ≤ 1000 → ∀ {S : Sto} {Q : QE}, Q (.str (txD t)) S → wpCall P (k + n) .pl "term_text" [t] S Q xN) →
      wpCall P (k + n + 1) .pl "term_text" [d] S Q xN := by
    intro n d hd hdl k S Q h ih
    refine call_c' (k := k + n) hP [some d, none] rfl rfl ?_
    simp only [F_term_text, wpSs, wpS, wpE, wpEs, wpO, wpT, wpTs, wpB, wpCs, wpG, wpGs, wpI, wpJ, tgsLen, slot_0, slot_s, set_0, set_s, tp_tup, tp_key, tp_kt, Int.reduceLT, Int.reducePow, Int.reduceNeg, Int.reduceLE, b_add, b_sub, b_mulL, b_mulR, b_modP, b_fdivP, g_add, g_sub, c_lt, c_le, c_gt, c_ge, c_eqi, c_nei, c_eqs, c_nes, c_eqb, c_neb, c_isN, c_isnN, f_max2, f_min2, f_intb, f_int, t_bl, decide_eq_true_eq, decide_eq_false_iff_not, Bool.not_eq_true', Bool.not_eq_false', newL, ctx, int_a, hasF_t hP, true_and, g]
    rcases tw_split hd with ⟨x, hx, rfl⟩ | ⟨w, ts, hw, htl, rfl, _, ht⟩
    · rw [is_str_s]
      simp only [t_bl]
      refine ⟨fun _ => fin_same ?_, fun z => (by cases z)⟩
      have := h
      rw [show txD (.str x) = x from jn_one x] at this
      exact this
    · rw [is_str_t]
      simp only [t_bl, x_t0, s_tup, cut1, itemsM]
      refine ⟨fun z => (by cases z), fun _ => ⟨bb_s rfl, fun p hp q hq => ?_⟩⟩
      have npq : p ≠ q := by walk_at "stne"
      have hle : 3 + (twS ts).length ≤ 1000 := by
        have : (oW :: w :: (twS ts ++ [cW])).length ≤ 1000 := hdl
        simp only [List.length_cons, List.length_append, List.length_nil] at this
        omega
      refine lc_map (fun i y => ∃ t, ts[i]? = some t ∧ y = .str (txD t)) (by omega) (fun _ => trivial) (fun i t acc e K hK => ?_) (fun ys hl hy => ?_)
      · have htm := List.mem_of_getElem? e
        have hn : 1 ≤ n := by
          rcases Nat.eq_zero_or_pos n with rfl | h
          · rcases hd with ⟨x, _, z⟩ | ⟨w', _, z⟩
            · cases z
            · cases z; cases htm
          · exact h
        simp only [wipeD, List.set, slot_s, slot_0, tp_tup, tp_key, tp_kt]
        exact ih hn (ht t htm) (by have := twS_le htm; omega) (hK _ _ ⟨t, e, rfl⟩ (Abs.refl _))
      · have ey : ys = (ts.map txD).map D.str := by
          rw [List.map_map]
          exact eq_map hl hy
        subst ey
        rw [b_addl (ds := [.str oW, .str w]) (es := (ts.map txD).map .str) (by walk_at "stk") Sto.put_same]
        refine ⟨by simp only [List.length_map, List.length_cons, List.length_nil]; rw [sizeLine_eq]; omega, fun r hr u hu => ?_⟩
        have nru : r ≠ u := by walk_at "stne"
        rw [b_addl (ds := [.str oW, .str w] ++ (ts.map txD).map .str) (es := [.str cW]) (by walk_at "stk") Sto.put_same]
        refine ⟨by simp only [List.length_map, List.length_cons, List.length_append, List.length_nil]; rw [sizeLine_eq]; omega, fun v hv => ?_⟩
        have e : ([.str oW, .str w] ++ (ts.map txD).map D.str ++ [.str cW]) = (oW :: w :: (ts.map txD ++ [cW])).map D.str := by simp
        rw [e, m_join (seq_lst Sto.put_same) (strs_map _), txD_tup w ht]
        refine ⟨?_, fin_rt (by walk_at "absT") h⟩
        have := sum_le (B := 9000) (oW :: w :: (ts.map txD ++ [cW])) fun x hx => by
          simp only [List.mem_cons, List.mem_append, List.not_mem_nil, or_false, List.mem_map] at hx
          rcases hx with rfl | rfl | ⟨t, htm, rfl⟩ | rfl
          · decide
          · have := (nm_len hw).2; omega
          · exact txD_len (ht t htm) (by have := twS_le htm; omega)
          · decide
        have e1 : (oW :: w :: (ts.map txD ++ [cW])).length = ts.length + 3 := by simp
        rw [e1] at this ⊢
        rw [show (Str.ofString " ").length = 1 from by decide]
        omega
  intro n
  induction n with
  | zero => intro d hd hdl k S Q h; exact step 0 hd hdl h fun z => absurd z (by decide)
  | succ n ih =>
    intro d hd hdl k S Q h
    exact step (n + 1) hd hdl h fun _ t h1 h2 S Q h3 => ih h1 h2 h3

/-! ### atoms and claims written -/
abbrev cmW : Str := Str.ofString ","
abbrev arW : Str := Str.ofString "=>"
/-- an atom's words, a side's, a claim's -/
def aw (a : Str × List D) : List Str := a.1 :: twS a.2
def sdW (s : List (Str × List D)) : List Str := comL cmW (s.map aw)
def clW (as bs : List (Str × List D)) : List Str := sdW as ++ arW :: sdW bs
theorem aw_ne (a : Str × List D) : aw a ≠ [] := fun z => by cases z
theorem twS_len : ∀ {ts : List D}, (∀ t ∈ ts, (tw t).length ≤ 15) → (twS ts).length ≤ 15 * ts.length
  | [], _ => Nat.le_refl _
  | t :: ts, h => by
    have := twS_len fun x hx => h x (List.mem_cons_of_mem _ hx)
    have := h t (List.mem_cons_self ..)
    show (tw t ++ twS ts).length ≤ _
    rw [List.length_append, List.length_cons]; omega
theorem WAt.len {a : Str × List D} (h : WAt a) : (twS a.2).length ≤ 45 := by
  have := twS_len fun t ht => (h.tm t ht).2
  have := h.le
  omega
theorem WAt.wd {a : Str × List D} (h : WAt a) : ∀ w ∈ aw a, Wd w := fun w hw => by
  rcases List.mem_cons.mp hw with rfl | hw
  · exact .inl h.nm
  · obtain ⟨t, h1, h2⟩ := twS_mem hw
    exact tw_wd (h.tm t h1).1 w h2
theorem comL_snoc {α : Type} (m : α) (x : List α) : ∀ {xs : List (List α)}, xs ≠ [] → comL m (xs ++ [x]) = comL m xs ++ m :: x
  | [], h => absurd rfl h
  | [y], _ => rfl
  | y :: z :: r, _ => by
    show y ++ m :: comL m ((z :: r) ++ [x]) = (y ++ m :: comL m (z :: r)) ++ m :: x
    rw [comL_snoc m x (List.cons_ne_nil z r), List.append_assoc]; rfl
theorem comL_len {α : Type} (m : α) {B : Nat} : ∀ {xs : List (List α)}, (∀ x ∈ xs, x.length ≤ B) → (comL m xs).length ≤ (B + 1) * xs.length
  | [], _ => Nat.zero_le _
  | [y], h => by have := h y (List.mem_cons_self ..); show y.length ≤ (B + 1) * 1; omega
  | y :: z :: r, h => by
    have h1 := comL_len m (xs := z :: r) fun x hx => h x (List.mem_cons_of_mem _ hx)
    have h2 := h y (List.mem_cons_self ..)
    show (y ++ m :: comL m (z :: r)).length ≤ (B + 1) * ((z :: r).length + 1)
    rw [List.length_append, List.length_cons, Nat.mul_add]; omega
theorem comL_mem {α : Type} {m w : α} : ∀ {xs : List (List α)}, w ∈ comL m xs → w = m ∨ ∃ x ∈ xs, w ∈ x
  | [], h => by cases h
  | [y], h => .inr ⟨y, List.mem_cons_self .., h⟩
  | y :: z :: r, h => by
    rcases List.mem_append.mp (show w ∈ y ++ m :: comL m (z :: r) from h) with h | h
    · exact .inr ⟨y, List.mem_cons_self .., h⟩
    · rcases List.mem_cons.mp h with h | h
      · exact .inl h
      · rcases comL_mem h with h | ⟨x, h1, h2⟩
        · exact .inl h
        · exact .inr ⟨x, List.mem_cons_of_mem _ h1, h2⟩
theorem sdW_len {s : List (Str × List D)} (h : ∀ a ∈ s, WAt a) : (sdW s).length ≤ 47 * s.length := by
  have := comL_len cmW (B := 46) (xs := s.map aw) fun x hx => by
    obtain ⟨a, ha, rfl⟩ := List.mem_map.mp hx
    have := (h a ha).len
    show (twS a.2).length + 1 ≤ 46; omega
  rwa [List.length_map] at this
theorem sdW_wd {s : List (Str × List D)} (h : ∀ a ∈ s, WAt a) : ∀ w ∈ sdW s, Wd w ∨ w = cmW := fun w hw => by
  rcases comL_mem hw with h1 | ⟨x, h1, h2⟩
  · exact .inr h1
  · obtain ⟨a, ha, rfl⟩ := List.mem_map.mp h1
    exact .inl ((h a ha).wd w h2)
theorem sdW_snoc {s : List (Str × List D)} (h : s ≠ []) (a : Str × List D) : sdW (s ++ [a]) = sdW s ++ cmW :: aw a := by
  unfold sdW
  rw [List.map_append, List.map_cons, List.map_nil, comL_snoc _ _ (fun z => h (List.map_eq_nil_iff.mp z))]
theorem cut_last {xs : List D} {x : D} : cutL (xs ++ [x]) none (some (-1)) = xs := by
  unfold cutL
  have e1 : HT.sIx (xs ++ [x]).length 0 none = 0 := rfl
  have e2 : HT.sIx (xs ++ [x]).length (xs ++ [x]).length (some (-1)) = xs.length := by
    rw [List.length_append, List.length_singleton]
    show (if (-1 : Int) < 0 then ((-1 : Int) + ((xs.length + 1 : Nat) : Int)).toNat else min (-1 : Int).toNat (xs.length + 1)) = _
    rw [if_pos (by decide)]
    omega
  rw [e1, e2]
  simp
theorem b_mulW {S : Sto} {Q : QE} {a : Nat} {xs : List D} {k : Int} (h : S a = some (.lst xs)) : binM .mul (.ref a) (.int k) S Q = (0 ≤ k ∧ k ≤ 1000 ∧ xs.length ≤ 1000 ∧ ∀ p, S p = none → Q (.ref p) (S.put p (.lst (repL k xs)))) := by
  show (match S a with
    | some (.lst xs) => 0 ≤ k ∧ k ≤ 1000 ∧ xs.length ≤ 1000 ∧ ∀ p, S p = none → Q (.ref p) (S.put p (.lst (repL k xs)))
    | _ => False) = _
  rw [h]
theorem awords_ok {P : Prog} (g : P.gl "str" = some (.ty "str")) (hW : P.fn "_law_term_words" = some ⟨.pl, 1, 3, F__law_term_words⟩) (hP : P.fn "_law_atom_words" = some ⟨.pl, 1, 3, F__law_atom_words⟩) {a : Str × List D} (ha : WAt a) {k : Nat} {S : Sto} {Q : QE} (h : ∀ p, S p = none → Q (.ref p) (S.put p (.lst ((aw a).map .str)))) : wpCall P (k + 6) .pl "_law_atom_words" [waD a] S Q xN := by
  obtain ⟨x, ts⟩ := a
  have hlen := ha.len
  refine call_c' (k := k + 5) hP [some (waD (x, ts)), none, none] rfl rfl ?_
  simp only [F__law_atom_words, wpSs, wpS, wpE, wpEs, wpO, wpT, wpTs, wpB, wpCs, wpG, wpGs, wpI, wpJ, tgsLen, slot_0, slot_s, set_0, set_s, tp_tup, tp_key, tp_kt, Int.reduceLT, Int.reducePow, Int.reduceNeg, Int.reduceLE, b_add, b_sub, b_mulL, b_mulR, b_modP, b_fdivP, g_add, g_sub, c_lt, c_le, c_gt, c_ge, c_eqi, c_nei, c_eqs, c_nes, c_eqb, c_neb, c_isN, c_isnN, f_max2, f_min2, f_intb, f_int, t_bl, decide_eq_true_eq, decide_eq_false_iff_not, Bool.not_eq_true', Bool.not_eq_false', newL, ctx, int_a, hasF_t hW, true_and, waD, x_t0, x_t1]
  intro p hp
  simp only [i_tup]
  refine for_gen (fun i σ S' => ∃ (u2 : Option D), S' = S.put p (.lst ((x :: twS (ts.take i)).map .str)) ∧ σ = [some (.tup [.str x, .tup ts]), some (.ref p), u2]) (fun i t σ S' e hI => ⟨trivial, fun K hK => ?_⟩) (fun σ S' hI => ⟨trivial, ?_⟩) ⟨none, rfl, rfl⟩
  · obtain ⟨u2, rfl, rfl⟩ := hI
    have htm := List.mem_of_getElem? e
    simp only [List.set, slot_s, slot_0, tp_tup, tp_key, tp_kt]
    refine ⟨bb_l Sto.put_same rfl, ?_⟩
    have tl := twS_le htm
    have hlen : (twS ts).length ≤ 45 := hlen
    refine twords_ok g hW 4 (ha.tm t htm).1 (by omega) (k := k) fun q hq => ?_
    have npq : p ≠ q := by walk_at "stne"
    have tk := twS_take_le ts i
    rw [m_ext (es := (tw t).map .str) (by walk_at "stk") (by unfold extOf; simp only [Sto.put_same])]
    refine ⟨by simp only [List.length_map, List.length_cons]; rw [sizeLine_eq]; omega, hK _ _ _ ⟨_, rfl, rfl⟩ ?_⟩
    rw [take_snoc e, twS_app, show twS [t] = tw t ++ [] from rfl, List.append_nil, show (List.map D.str (x :: twS (ts.take i)) ++ List.map D.str (tw t)) = (x :: (twS (ts.take i) ++ tw t)).map D.str from by simp]
    walk_at "absT"
  · obtain ⟨u2, rfl, rfl⟩ := hI
    rw [List.take_length]
    exact fin_rt (Abs.refl _) (h p hp)
theorem cwords_ok {P : Prog} (g : P.gl "str" = some (.ty "str")) (hW : P.fn "_law_term_words" = some ⟨.pl, 1, 3, F__law_term_words⟩) (hA : P.fn "_law_atom_words" = some ⟨.pl, 1, 3, F__law_atom_words⟩) (hP : P.fn "_law_claim_words" = some ⟨.pl, 1, 5, F__law_claim_words⟩) {as bs : List (Str × List D)} (l1 : as.length ≤ 9) (l2 : bs.length ≤ 9) (ha : ∀ a ∈ as ++ bs, WAt a) {k : Nat} {S : Sto} {Q : QE} (h : ∀ p, S p = none → Q (.ref p) (S.put p (.lst ((clW as bs).map .str)))) : wpCall P (k + 7) .pl "_law_claim_words" [.tup [.tup (as.map waD), .tup (bs.map waD)]] S Q xN := by
  refine call_c' (k := k + 6) hP [some (.tup [.tup (as.map waD), .tup (bs.map waD)]), none, none, none, none] rfl rfl ?_
  simp only [F__law_claim_words, wpSs, wpS, wpE, wpEs, wpO, wpT, wpTs, wpB, wpCs, wpG, wpGs, wpI, wpJ, tgsLen, slot_0, slot_s, set_0, set_s, tp_tup, tp_key, tp_kt, Int.reduceLT, Int.reducePow, Int.reduceNeg, Int.reduceLE, b_add, b_sub, b_mulL, b_mulR, b_modP, b_fdivP, g_add, g_sub, c_lt, c_le, c_gt, c_ge, c_eqi, c_nei, c_eqs, c_nes, c_eqb, c_neb, c_isN, c_isnN, f_max2, f_min2, f_intb, f_int, t_bl, decide_eq_true_eq, decide_eq_false_iff_not, Bool.not_eq_true', Bool.not_eq_false', newL, ctx, int_a, hasF_t hA, true_and]
  intro p hp
  simp only [i_tup]
  have side : ∀ s ∈ [as, bs], s.length ≤ 9 ∧ ∀ a ∈ s, WAt a := fun s hs => by
    simp only [List.mem_cons, List.not_mem_nil, or_false] at hs
    rcases hs with rfl | rfl
    · exact ⟨l1, fun a h => ha a (List.mem_append_left _ h)⟩
    · exact ⟨l2, fun a h => ha a (List.mem_append_right _ h)⟩
  refine for_gen (fun i σ S' => ∃ (pre : List Str) (u2 u3 u4 : Option D), pre = (([as, bs].take i).map fun s => sdW s ++ [arW]).flatten ∧ S' = S.put p (.lst (pre.map .str)) ∧ σ = [some (.tup [.tup (as.map waD), .tup (bs.map waD)]), some (.ref p), u2, u3, u4]) (fun i d σ S' e hI => ⟨trivial, fun K hK => ?_⟩) (fun σ S' hI => ⟨trivial, ?_⟩) ⟨[], none, none, none, rfl, rfl, rfl⟩
  · obtain ⟨pre, u2, u3, u4, hpre, rfl, rfl⟩ := hI
    have e' : ([as, bs].map fun s => D.tup (s.map waD))[i]? = some d := e
    rw [List.getElem?_map] at e'
    obtain ⟨s, es, rfl⟩ := Option.map_eq_some_iff.mp e'
    obtain ⟨sl, sa⟩ := side s (List.mem_of_getElem? es)
    have hi : i < 2 := by have := (List.getElem?_eq_some_iff.mp es).1; exact this
    have hpl : pre.length ≤ 1000 := by
      have h1 := sdW_len (s := as) fun a h => ha a (List.mem_append_left _ h)
      rw [hpre]
      match i, hi with
      | 0, _ => exact Nat.zero_le _
      | 1, _ =>
        show (sdW as ++ [arW] ++ []).length ≤ _
        rw [List.append_nil, List.length_append]; show _ + 1 ≤ _; omega
    simp only [List.set, slot_s, slot_0, tp_tup, tp_key, tp_kt]
    simp only [show ∀ (ds : List D) (S : Sto), lstOf (.tup ds) S = none from fun _ S => rfl, tupOf]
    refine for_gen (fun j σ S' => ∃ (u2 u3 : Option D), S' = S.put p (.lst ((pre ++ sdW (s.take j)).map .str)) ∧ σ = [some (.tup [.tup (as.map waD), .tup (bs.map waD)]), some (.ref p), u2, u3, some (.tup (s.map waD))]) (fun j d σ S' e2 hJ => ⟨trivial, fun K2 hK2 => ?_⟩) (fun σ S' hJ => ⟨trivial, ?_⟩) ⟨u2, u3, by rw [show sdW (s.take 0) = [] from rfl, List.append_nil], rfl⟩
    · obtain ⟨u2, u3, rfl, rfl⟩ := hJ
      obtain ⟨gd, e3, rfl⟩ := enumL_get e2
      rw [List.getElem?_map] at e3
      obtain ⟨a, e4, rfl⟩ := Option.map_eq_some_iff.mp e3
      have hj := (List.getElem?_eq_some_iff.mp e4).1
      have haa := sa a (List.mem_of_getElem? e4)
      have hal := haa.len
      have hsl := sdW_len (s := s.take j) fun a h => sa a (List.mem_of_mem_take h)
      rw [List.length_take] at hsl
      have hsl : (sdW (s.take j)).length ≤ 47 * 9 := by omega
      simp only [List.set, slot_s, slot_0, tp_tup, tp_key, tp_kt, Int.zero_add, Nat.zero_add]
      refine ⟨by trivial, by trivial, bb_l Sto.put_same rfl, fun c hc => ?_⟩
      have npc : p ≠ c := by walk_at "stne"
      simp only [Int.reduceLT, Int.reducePow, Int.reduceNeg, Int.reduceLE, b_add, b_sub, b_mulL, b_mulR, b_modP, b_fdivP, g_add, g_sub, c_lt, c_le, c_gt, c_ge, c_eqi, c_nei, c_eqs, c_nes, c_eqb, c_neb, c_isN, c_isnN, f_max2, f_min2, f_intb, f_int, t_bl, decide_eq_true_eq, decide_eq_false_iff_not, Bool.not_eq_true', Bool.not_eq_false']
      rw [b_mulW Sto.put_same]
      refine ⟨by split <;> decide, by split <;> decide, by decide, fun m hm => ?_⟩
      have npm : p ≠ m := by walk_at "stne"
      refine awords_ok g hW hA haa (k := k) fun q hq => ?_
      have npq : p ≠ q := by walk_at "stne"
      have nmq : m ≠ q := by walk_at "stne"
      rw [b_addl (ds := repL (if (0 : Int) < (j : Int) then 1 else 0) [D.str cmW]) (es := (aw a).map .str) (by walk_at "stk") Sto.put_same]
      have hrl : (repL (if (0 : Int) < (j : Int) then 1 else 0) [D.str cmW]).length ≤ 1 := by split <;> decide
      refine ⟨by rw [List.length_map, sizeLine_eq]; show _ + ((twS a.2).length + 1) ≤ _; omega, fun r hr => ?_⟩
      have npr : p ≠ r := by walk_at "stne"
      have en : (pre ++ sdW (s.take j)).map D.str ++ (repL (if (0 : Int) < (j : Int) then 1 else 0) [D.str cmW] ++ (aw a).map D.str) = (pre ++ sdW (s.take (j + 1))).map D.str := by
        rw [take_snoc e4]
        cases j with
        | zero =>
          rw [if_neg (by simp)]
          show (pre ++ []).map D.str ++ ([] ++ (aw a).map D.str) = (pre ++ aw a).map D.str
          simp
        | succ j =>
          rw [if_pos (by omega), sdW_snoc (fun z => by
            have := congrArg List.length z
            rw [List.length_take, List.length_nil] at this; omega)]
          show _ ++ ([D.str cmW] ++ _) = _
          simp
      rw [m_ext (es := repL (if (0 : Int) < (j : Int) then 1 else 0) [D.str cmW] ++ (aw a).map D.str) (by walk_at "stk") (by unfold extOf; simp only [Sto.put_same])]
      rw [en]
      refine ⟨by rw [List.length_map, List.length_append, List.length_append, List.length_map, sizeLine_eq]; show pre.length + _ + (_ + ((twS a.2).length + 1)) ≤ _; omega, hK2 _ _ _ ⟨_, _, rfl, rfl⟩ (by walk_at "absT")⟩
    · obtain ⟨u2, u3, rfl, rfl⟩ := hJ
      rw [enumL_length, List.length_map, List.take_length]
      simp only [slot_s, slot_0, tp_tup, tp_key, tp_kt]
      refine ⟨bb_l Sto.put_same rfl, ?_⟩
      rw [m_app Sto.put_same, Sto.put_put]
      have hsl := sdW_len sa
      refine ⟨by rw [List.length_map, List.length_append, sizeLine_eq]; omega, hK _ _ _ ⟨pre ++ sdW s ++ [arW], _, _, _, ?_, by simp, rfl⟩ (Abs.refl _)⟩
      rw [take_snoc es, List.map_append, List.flatten_append, ← hpre]
      simp
  · obtain ⟨pre, u2, u3, u4, hpre, rfl, rfl⟩ := hI
    have hpre : pre = clW as bs ++ [arW] := by rw [hpre]; show (sdW as ++ [arW]) ++ ((sdW bs ++ [arW]) ++ []) = _; unfold clW; simp
    simp only [slot_s, slot_0, tp_tup, tp_key, tp_kt]
    rw [s_lst Sto.put_same]
    intro q hq
    have ec : cutL (pre.map D.str) none (some (-1)) = (clW as bs).map D.str := by
      rw [hpre, List.map_append]
      exact cut_last
    rw [ec]
    exact fin_rt (S := S.put q (.lst ((clW as bs).map D.str))) (by walk_at "absT") (h q (by walk_at "stn"))
/-- an atom's text -/
abbrev txA (a : Str × List D) : Str := Txt.join spW (aw a)
theorem txA_eq {a : Str × List D} (ha : WAt a) : Txt.join spW (a.1 :: a.2.map txD) = txA a := by
  have e : a.1 :: a.2.map txD = ([a.1] :: a.2.map tw).map (Txt.join spW) := by
    rw [List.map_cons, jn_one, List.map_map]; rfl
  rw [e, jn_flat]
  · unfold txA aw
    rw [List.flatten_cons, twS_map]; rfl
  · intro xs hxs
    rcases List.mem_cons.mp hxs with rfl | hxs
    · simp
    · obtain ⟨t, ht, rfl⟩ := List.mem_map.mp hxs
      exact tw_ne (ha.tm t ht).1
theorem txA_len {a : Str × List D} (ha : WAt a) : (txA a).length ≤ 1000 := by
  have := jn_len (y := spW) (B := 8) (ws := aw a) fun w hw => (ha.wd w hw).len
  rw [show spW.length = 1 from by decide] at this
  have := ha.len
  have : (aw a).length = (twS a.2).length + 1 := rfl
  show (Txt.join spW (aw a)).length ≤ _
  omega
theorem atext_ok {P : Prog} (g : P.gl "str" = some (.ty "str")) (hW : P.fn "term_text" = some ⟨.pl, 1, 2, F_term_text⟩) (hP : P.fn "atom_text" = some ⟨.pl, 1, 2, F_atom_text⟩) {a : Str × List D} (ha : WAt a) {k : Nat} {S : Sto} {Q : QE} (h : Q (.str (txA a)) S) : wpCall P (k + 6) .pl "atom_text" [waD a] S Q xN := by
  rw [← txA_eq ha] at h
  obtain ⟨x, ts⟩ := a
  have hlen := ha.len
  have htl := ha.le
  refine call_c' (k := k + 5) hP [some (waD (x, ts)), none] rfl rfl ?_
  simp only [F_atom_text, wpSs, wpS, wpE, wpEs, wpO, wpT, wpTs, wpB, wpCs, wpG, wpGs, wpI, wpJ, tgsLen, slot_0, slot_s, set_0, set_s, tp_tup, tp_key, tp_kt, Int.reduceLT, Int.reducePow, Int.reduceNeg, Int.reduceLE, b_add, b_sub, b_mulL, b_mulR, b_modP, b_fdivP, g_add, g_sub, c_lt, c_le, c_gt, c_ge, c_eqi, c_nei, c_eqs, c_nes, c_eqb, c_neb, c_isN, c_isnN, f_max2, f_min2, f_intb, f_int, t_bl, decide_eq_true_eq, decide_eq_false_iff_not, Bool.not_eq_true', Bool.not_eq_false', newL, ctx, int_a, hasF_t hW, true_and, waD, x_t0, x_t1, itemsM]
  refine ⟨bb_s rfl, fun p hp q hq => ?_⟩
  have npq : p ≠ q := by walk_at "stne"
  have htl : ts.length ≤ 3 := htl
  refine lc_map (fun i y => ∃ t, ts[i]? = some t ∧ y = .str (txD t)) (by omega) (fun _ => trivial) (fun i t acc e K hK => ?_) (fun ys hl hy => ?_)
  · simp only [wipeD, List.set, slot_s, slot_0, tp_tup, tp_key, tp_kt]
    have htm := ha.tm t (List.mem_of_getElem? e)
    exact ttext_ok g hW 4 htm.1 (by omega) (k := k) (hK _ _ ⟨t, e, rfl⟩ (Abs.refl _))
  · have ey : ys = (ts.map txD).map D.str := by
      rw [List.map_map]
      exact eq_map hl hy
    subst ey
    rw [b_addl (ds := [.str x]) (es := (ts.map txD).map .str) (by walk_at "stk") Sto.put_same]
    refine ⟨by simp only [List.length_map, List.length_cons, List.length_nil]; rw [sizeLine_eq]; omega, fun r hr => ?_⟩
    have e : ([.str x] ++ (ts.map txD).map D.str) = (x :: ts.map txD).map D.str := rfl
    rw [e, m_join (seq_lst Sto.put_same) (strs_map _)]
    refine ⟨?_, fin_rt (by walk_at "absT") h⟩
    have := sum_le (B := 9000) (x :: ts.map txD) fun y hy => by
      rcases List.mem_cons.mp hy with rfl | hy
      · have := (nm_len ha.nm).2; simp only at this; omega
      · obtain ⟨t, ht, rfl⟩ := List.mem_map.mp hy
        have := ha.tm t ht
        exact txD_len this.1 (by omega)
    have e1 : (x :: ts.map txD).length = ts.length + 1 := by simp
    rw [e1] at this ⊢
    rw [show (Str.ofString " ").length = 1 from by decide]
    omega
abbrev txS (s : List (Str × List D)) : Str := Txt.join (Str.ofString " , ") (s.map txA)
theorem txS_eq (s : List (Str × List D)) : txS s = Txt.join spW (sdW s) := by
  show Txt.join _ (s.map txA) = _
  rw [show s.map txA = (s.map aw).map (Txt.join spW) from by rw [List.map_map]; rfl]
  exact jn_com (m := cmW) (by decide +kernel) fun xs hxs => by
    obtain ⟨a, _, rfl⟩ := List.mem_map.mp hxs
    exact aw_ne a
theorem sdW_ne {s : List (Str × List D)} (h : s ≠ []) : sdW s ≠ [] := by
  cases s with
  | nil => exact absurd rfl h
  | cons a r => exact comL_ne (aw_ne a)
theorem txS_ne {s : List (Str × List D)} (h : s ≠ []) (ha : ∀ a ∈ s, WAt a) : txS s ≠ Str.ofString "" := by
  rw [txS_eq]
  refine jn_ne (sdW_ne h) fun w hw z => ?_
  subst z
  rcases sdW_wd ha _ hw with h | h
  · have := Wd.ne h (y := Str.ofString "") (by decide +kernel) (by decide +kernel) (by decide +kernel)
    exact this rfl
  · revert h; decide +kernel
/-- a claim's text -/
abbrev txC (as bs : List (Str × List D)) : Str := Txt.join spW (clW as bs)
theorem txC_0 {bs : List (Str × List D)} (h : bs ≠ []) : Str.ofString "=> " ++ txS bs = txC [] bs := by
  apply TL.ext_tl
  have hb := sdW_ne h
  rw [TL.tl_append, txS_eq, tl_jn, tl_jn, tl_sp]
  show _ = TL.joinL [32] ((arW :: sdW bs).map TL.tl)
  rw [List.map_cons, show (TL.tl arW :: (sdW bs).map TL.tl) = [TL.tl arW] ++ (sdW bs).map TL.tl from rfl, joinL_app [32] (List.cons_ne_nil _ _) (fun z => hb (List.map_eq_nil_iff.mp z))]
  rw [show TL.tl (Str.ofString "=> ") = TL.tl arW ++ [32] from by decide +kernel, List.append_assoc]
  rfl
theorem txC_1 {as bs : List (Str × List D)} (h1 : as ≠ []) (h2 : bs ≠ []) : Txt.join (Str.ofString " => ") [txS as, txS bs] = txC as bs := by
  rw [txS_eq, txS_eq]
  exact jn_com (m := arW) (xss := [sdW as, sdW bs]) (by decide +kernel) fun xs hxs => by
    simp only [List.mem_cons, List.not_mem_nil, or_false] at hxs
    rcases hxs with rfl | rfl
    · exact sdW_ne h1
    · exact sdW_ne h2
theorem txS_len {s : List (Str × List D)} (h : ∀ a ∈ s, WAt a) (hl : s.length ≤ 9) : (txS s).length ≤ 10000 := by
  rw [txS_eq]
  have := jn_len (y := spW) (B := 8) (ws := sdW s) fun w hw => by
    rcases sdW_wd h w hw with h | rfl
    · exact h.len
    · decide
  rw [show spW.length = 1 from by decide] at this
  have := sdW_len h
  omega

theorem ctext_ok {P : Prog} (g : P.gl "str" = some (.ty "str")) (hW0 : P.fn "term_text" = some ⟨.pl, 1, 2, F_term_text⟩) (hA : P.fn "atom_text" = some ⟨.pl, 1, 2, F_atom_text⟩) (hP : P.fn "claim_text" = some ⟨.pl, 1, 4, F_claim_text⟩) {as bs : List (Str × List D)} (l1 : as.length ≤ 9) (l0 : 1 ≤ bs.length) (l2 : bs.length ≤ 9) (ha : ∀ a ∈ as ++ bs, WAt a) {k : Nat} {S : Sto} {Q : QE} (h : Q (.str (txC as bs)) S) : wpCall P (k + 7) .pl "claim_text" [.tup [.tup (as.map waD), .tup (bs.map waD)]] S Q xN := by
  refine call_c' (k := k + 6) hP [some (.tup [.tup (as.map waD), .tup (bs.map waD)]), none, none, none] rfl rfl ?_
  simp only [F_claim_text, wpSs, wpS, wpE, wpEs, wpO, wpT, wpTs, wpB, wpCs, wpG, wpGs, wpI, wpJ, tgsLen, slot_0, slot_s, set_0, set_s, tp_tup, tp_key, tp_kt, Int.reduceLT, Int.reducePow, Int.reduceNeg, Int.reduceLE, b_add, b_sub, b_mulL, b_mulR, b_modP, b_fdivP, g_add, g_sub, c_lt, c_le, c_gt, c_ge, c_eqi, c_nei, c_eqs, c_nes, c_eqb, c_neb, c_isN, c_isnN, f_max2, f_min2, f_intb, f_int, t_bl, decide_eq_true_eq, decide_eq_false_iff_not, Bool.not_eq_true', Bool.not_eq_false', newL, ctx, int_a, hasF_t hA, true_and, itemsM]
  have side : ∀ s ∈ [as, bs], s.length ≤ 9 ∧ ∀ a ∈ s, WAt a := fun s hs => by
    simp only [List.mem_cons, List.not_mem_nil, or_false] at hs
    rcases hs with rfl | rfl
    · exact ⟨l1, fun a h => ha a (List.mem_append_left _ h)⟩
    · exact ⟨l2, fun a h => ha a (List.mem_append_right _ h)⟩
  intro p hp
  refine lc_map (fun i y => ∃ s, [as, bs][i]? = some s ∧ y = .str (txS s)) (by show 2 ≤ _; omega) (fun _ => trivial) (fun i d acc e K hK => ?_) (fun ys hl hy => ?_)
  · have e' : ([as, bs].map fun s => D.tup (s.map waD))[i]? = some d := e
    rw [List.getElem?_map] at e'
    obtain ⟨s, es, rfl⟩ := Option.map_eq_some_iff.mp e'
    obtain ⟨sl, sa⟩ := side s (List.mem_of_getElem? es)
    simp only [wipeD, List.set, slot_s, slot_0, tp_tup, tp_key, tp_kt, itemsM]
    refine ⟨bb_s rfl, fun q hq => ?_⟩
    refine lc_map (fun j y => ∃ a, s[j]? = some a ∧ y = .str (txA a)) (by rw [List.length_map]; omega) (fun _ => trivial) (fun j d acc e2 K2 hK2 => ?_) (fun ys hl hy => ?_)
    · rw [List.getElem?_map] at e2
      obtain ⟨a, ea, rfl⟩ := Option.map_eq_some_iff.mp e2
      simp only [wipeD, List.set, slot_s, slot_0, tp_tup, tp_key, tp_kt]
      exact atext_ok g hW0 hA (sa a (List.mem_of_getElem? ea)) (k := k) (hK2 _ _ ⟨a, ea, rfl⟩ (Abs.refl _))
    · rw [List.length_map] at hl
      have ey : ys = (s.map txA).map D.str := by
        rw [List.map_map]
        exact eq_map hl hy
      subst ey
      rw [m_join (seq_lst Sto.put_same) (strs_map _)]
      refine ⟨?_, hK _ _ ⟨s, es, rfl⟩ (by walk_at "absT")⟩
      have := sum_le (B := 1000) (s.map txA) fun y hy => by
        obtain ⟨a, ha, rfl⟩ := List.mem_map.mp hy
        exact txA_len (sa a ha)
      rw [List.length_map] at this ⊢
      rw [show (Str.ofString " , ").length = 3 from by decide]
      omega
  · have ey : ys = [.str (txS as), .str (txS bs)] := by
      have := eq_map (l := [as, bs]) (f := fun s => D.str (txS s)) hl hy
      exact this
    subst ey
    have hb : bs ≠ [] := fun z => by rw [z] at l0; exact absurd l0 (by decide)
    have b1 := txS_len (side as (List.mem_cons_self ..)).2 l1
    have b2 := txS_len (side bs (List.mem_cons_of_mem _ (List.mem_cons_self ..))).2 l2
    rw [x_lst Sto.put_same (d := .str (txS as)) rfl]
    simp only [Int.reduceLT, Int.reducePow, Int.reduceNeg, Int.reduceLE, b_add, b_sub, b_mulL, b_mulR, b_modP, b_fdivP, g_add, g_sub, c_lt, c_le, c_gt, c_ge, c_eqi, c_nei, c_eqs, c_nes, c_eqb, c_neb, c_isN, c_isnN, f_max2, f_min2, f_intb, f_int, t_bl, decide_eq_true_eq, decide_eq_false_iff_not, Bool.not_eq_true', Bool.not_eq_false']
    refine ⟨fun he => ?_, fun hne => ?_⟩
    · rw [x_lst Sto.put_same (d := .str (txS bs)) rfl, b_adds]
      have h0 : as = [] := Classical.byContradiction fun z => txS_ne z (side as (List.mem_cons_self ..)).2 he
      subst h0
      refine ⟨by rw [show (Str.ofString "=> ").length = 3 from by decide, sizeLine_eq]; omega, ?_⟩
      rw [txC_0 hb]
      exact fin_rt (Abs.put hp) h
    · have h0 : as ≠ [] := fun z => hne (by rw [z]; rfl)
      refine ⟨bb_s rfl, ?_⟩
      rw [m_join (ds := [.str (txS as), .str (txS bs)]) (seq_lst Sto.put_same) (show strsOf [.str (txS as), .str (txS bs)] = some [txS as, txS bs] from strs_map [txS as, txS bs]), txC_1 h0 hb]
      refine ⟨?_, fin_rt (Abs.put hp) h⟩
      show ((txS as).length + ((txS bs).length + 0)) + 2 * (Str.ofString " => ").length ≤ 16777216
      rw [show (Str.ofString " => ").length = 4 from by decide]
      omega
/-! ### words parted -/
def ptG (m : Str) : List Str → List (List Str) → List Str → List (List Str)
  | [], ds, cur => ds ++ [cur]
  | w :: ws, ds, cur => if w = m then ptG m ws (ds ++ [cur]) [] else ptG m ws ds (cur ++ [w])
theorem ptG_part {m : Str} : ∀ {p rest : List Str} {ds : List (List Str)} {cur : List Str}, m ∉ p → ptG m (p ++ rest) ds cur = ptG m rest ds (cur ++ p)
  | [], rest, ds, cur, _ => by rw [List.append_nil]; rfl
  | x :: p, rest, ds, cur, h => by
    show (if x = m then _ else ptG m (p ++ rest) ds (cur ++ [x])) = _
    rw [if_neg (fun e => h (by rw [e]; exact List.mem_cons_self ..)), ptG_part (fun e => h (List.mem_cons_of_mem _ e)), List.append_assoc]
    rfl
theorem ptG_com {m : Str} : ∀ {p : List Str} {r : List (List Str)} {ds : List (List Str)}, (∀ x ∈ p :: r, m ∉ x) → ptG m (comL m (p :: r)) ds [] = ds ++ p :: r
  | p, [], ds, h => by
    have := ptG_part (rest := []) (ds := ds) (cur := []) (h p (List.mem_cons_self ..))
    rw [List.append_nil] at this
    show ptG m p ds [] = _
    rw [this]; rfl
  | p, q :: r, ds, h => by
    show ptG m (p ++ m :: comL m (q :: r)) ds [] = _
    rw [ptG_part (h p (List.mem_cons_self ..))]
    show (if m = m then ptG m (comL m (q :: r)) (ds ++ [[] ++ p]) [] else _) = _
    rw [if_pos rfl, ptG_com fun x hx => h x (List.mem_cons_of_mem _ hx)]
    simp
theorem ptG_two {m : Str} {a b : List Str} (h1 : m ∉ a) (h2 : m ∉ b) : ptG m (a ++ m :: b) [] [] = [a, b] :=
  ptG_com (p := a) (r := [b]) fun x hx => by
    simp only [List.mem_cons, List.not_mem_nil, or_false] at hx
    rcases hx with rfl | rfl
    · exact h1
    · exact h2
/-- lists of words that lie in the store -/
def PtR (S : Sto) (rs : List Nat) (ps : List (List Str)) : Prop := rs.length = ps.length ∧ ∀ (j : Nat) r x, rs[j]? = some r → ps[j]? = some x → S r = some (.lst (x.map .str))
theorem sub_old {S S' : Sto} {p : Nat} {o : MO} (h : Sub S S') (hp : S p = none) : Sub S (S'.put p o) := fun b x e => by
  rw [Sto.put_ne (by rintro rfl; rw [hp] at e; cases e)]
  exact h b x e
theorem ptd_ok {P : Prog} (hP : P.fn "parted_at" = some ⟨.pl, 2, 4, F_parted_at⟩) {ws : List Str} {m : Str} {q : Nat} {k : Nat} {S : Sto} {Q : QE} (hq : S q = some (.lst (ws.map .str))) (hl : ws.length ≤ 10000)
    (h : ∀ S' p rs, Sub S S' → S' p = some (.lst (rs.map .ref)) → PtR S' rs (ptG m ws [] []) → Q (.ref p) S') : wpCall P (k + 1) .pl "parted_at" [.ref q, .str m] S Q xN := by
  refine call_c' (k := k) hP [some (.ref q), some (.str m), none, none] rfl rfl ?_
  simp only [F_parted_at, wpSs, wpS, wpE, wpEs, wpO, wpT, wpTs, wpB, wpCs, wpG, wpGs, wpI, wpJ, tgsLen, slot_0, slot_s, set_0, set_s, tp_tup, tp_key, tp_kt, Int.reduceLT, Int.reducePow, Int.reduceNeg, Int.reduceLE, b_add, b_sub, b_mulL, b_mulR, b_modP, b_fdivP, g_add, g_sub, c_lt, c_le, c_gt, c_ge, c_eqi, c_nei, c_eqs, c_nes, c_eqb, c_neb, c_isN, c_isnN, f_max2, f_min2, f_intb, f_int, t_bl, decide_eq_true_eq, decide_eq_false_iff_not, Bool.not_eq_true', Bool.not_eq_false', newL, ctx, int_a, true_and]
  intro r0 hr0 p hp
  have npr : r0 ≠ p := by walk_at "stne"
  have nqr : q ≠ r0 := by walk_at "stne"
  have nqp : q ≠ p := by walk_at "stne"
  rw [i_lst (by walk_at "stk" : ((S.put r0 (.lst [])).put p (.lst [.ref r0])) q = some (.lst (ws.map .str)))]
  have hpS : S p = none := by walk_at "stn"
  refine for_gen (fun i σ S' => ∃ (ds : List (List Str)) (cur : List Str) (rs : List Nat) (r : Nat) (u3 : Option D), ptG m (ws.drop i) ds cur = ptG m ws [] [] ∧ ds.length ≤ i ∧ cur.length ≤ i ∧ Sub S S' ∧ S' p = some (.lst ((rs ++ [r]).map .ref)) ∧ PtR S' rs ds ∧ S' r = some (.lst (cur.map .str)) ∧ r ∉ rs ∧ p ∉ rs ∧ p ≠ r ∧ S r = none ∧ σ = [some (.ref q), some (.str m), some (.ref p), u3]) (fun i d σ S' e hI => ⟨?_, fun K hK => ?_⟩) (fun σ S' hI => ⟨?_, ?_⟩) ⟨[], [], [], r0, none, rfl, Nat.zero_le _, Nat.zero_le _, (Sub.put hr0).trans (Sub.put hp), Sto.put_same, ⟨rfl, fun j r x e => by simp at e⟩, (by rw [Sto.put_ne npr]; exact Sto.put_same), (fun z => by cases z), (fun z => by cases z), npr.symm, hr0, rfl⟩
  · obtain ⟨ds, cur, rs, r, u3, _, _, _, sb, _, _, _, _, _, _, _, rfl⟩ := hI
    rw [i_lst (sb _ _ hq)]
  · obtain ⟨ds, cur, rs, r, u3, h1, h2, h3, sb, hp', hR, hr, n1, n2, n3, hrS, rfl⟩ := hI
    have hi : i < ws.length := by have := (List.getElem?_eq_some_iff.mp e).1; rwa [List.length_map] at this
    rw [List.getElem?_map] at e
    obtain ⟨w, ew, rfl⟩ := Option.map_eq_some_iff.mp e
    have hd : ws.drop i = w :: ws.drop (i + 1) := by
      rw [List.drop_eq_getElem_cons hi]
      have := (List.getElem?_eq_some_iff.mp ew).2
      rw [this]
    rw [hd] at h1
    simp only [List.set, slot_s, slot_0, tp_tup, tp_key, tp_kt, Int.reduceLT, Int.reducePow, Int.reduceNeg, Int.reduceLE, b_add, b_sub, b_mulL, b_mulR, b_modP, b_fdivP, g_add, g_sub, c_lt, c_le, c_gt, c_ge, c_eqi, c_nei, c_eqs, c_nes, c_eqb, c_neb, c_isN, c_isnN, f_max2, f_min2, f_intb, f_int, t_bl, decide_eq_true_eq, decide_eq_false_iff_not, Bool.not_eq_true', Bool.not_eq_false']
    have hrl := hR.1
    refine ⟨fun he => ?_, fun hne => ?_⟩
    · subst he
      refine ⟨bb_l hp' rfl, fun v hv => ?_⟩
      have npv : p ≠ v := by rintro rfl; rw [hp'] at hv; cases hv
      have hv' : ∀ b o, S' b = some o → (S'.put v (.lst [])) b = some o := Sub.put hv
      rw [m_app (hv' _ _ hp')]
      have hvS : S v = none := by
        cases e : S v with
        | none => rfl
        | some o => rw [sb _ _ e] at hv; cases hv
      refine ⟨by rw [List.length_map, List.length_append, sizeLine_eq]; show _ + 1 < _; omega, hK _ _ _ ⟨ds ++ [cur], [], rs ++ [r], v, _, ?_, by rw [List.length_append]; show ds.length + 1 ≤ _; omega, Nat.zero_le _, sub_old (Sub.trans sb (Sub.put hv)) hpS, by rw [Sto.put_same, List.map_append (l₁ := rs ++ [r])]; rfl, ?_, by rw [Sto.put_ne npv.symm, Sto.put_same]; rfl, ?_, ?_, npv, hvS, rfl⟩ (Abs.refl _)⟩
      · rw [← h1]
        show ptG w (ws.drop (i + 1)) (ds ++ [cur]) [] = (if w = w then _ else _)
        rw [if_pos rfl]
      · have keep : ∀ b o, b ≠ p → S' b = some o → ((S'.put v (.lst [])).put p (.lst ((rs ++ [r]).map .ref ++ [.ref v]))) b = some o := fun b o hb e => by
          rw [Sto.put_ne hb]; exact hv' _ _ e
        refine ⟨by rw [List.length_append, List.length_append, hrl]; rfl, fun j r' x e1 e2 => ?_⟩
        by_cases hj : j < rs.length
        · rw [List.getElem?_append_left hj] at e1
          rw [List.getElem?_append_left (by omega)] at e2
          exact keep _ _ (fun z => n2 (by rw [← z]; exact List.mem_of_getElem? e1)) (hR.2 j r' x e1 e2)
        · rw [List.getElem?_append_right (by omega)] at e1 e2
          rw [hrl] at e1
          cases hz : j - ds.length with
          | zero =>
            rw [hz] at e1 e2
            cases e1; cases e2
            exact keep _ _ n3.symm hr
          | succ z => rw [hz] at e1; simp at e1
      · intro z
        have : ∃ o, S' v = some o := by
          rcases List.mem_append.mp z with z | z
          · obtain ⟨j, hj⟩ := List.mem_iff_getElem?.mp z
            have hjl := (List.getElem?_eq_some_iff.mp hj).1
            exact ⟨_, hR.2 j v _ hj (List.getElem?_eq_getElem (show j < ds.length by omega))⟩
          · cases List.mem_singleton.mp z; exact ⟨_, hr⟩
        obtain ⟨o, e⟩ := this
        rw [hv] at e; cases e
      · intro z
        rcases List.mem_append.mp z with z | z
        · exact n2 z
        · exact n3 (List.mem_singleton.mp z)
    · rw [x_lst hp' (d := .ref r) (by rw [List.map_append]; exact atI_last _ _)]
      refine ⟨bb_l hr rfl, ?_⟩
      rw [m_app hr]
      refine ⟨by rw [List.length_map, sizeLine_eq]; omega, hK _ _ _ ⟨ds, cur ++ [w], rs, r, _, ?_, by omega, by rw [List.length_append]; show cur.length + 1 ≤ _; omega, sub_old sb hrS, by rw [Sto.put_ne n3]; exact hp', ⟨hrl, fun j r' x e1 e2 => ?_⟩, by rw [Sto.put_same, List.map_append]; rfl, n1, n2, n3, hrS, rfl⟩ (Abs.refl _)⟩
      · rw [← h1]
        show _ = (if w = m then _ else _)
        rw [if_neg hne]
      · rw [Sto.put_ne (fun z => n1 (by rw [← z]; exact List.mem_of_getElem? e1))]
        exact hR.2 j r' x e1 e2
  · obtain ⟨ds, cur, rs, r, u3, _, _, _, sb, _, _, _, _, _, _, _, rfl⟩ := hI
    rw [i_lst (sb _ _ hq)]
  · obtain ⟨ds, cur, rs, r, u3, h1, h2, h3, sb, hp', hR, hr, n1, n2, n3, hrS, rfl⟩ := hI
    rw [List.length_map, List.drop_length] at h1
    have h1 : ds ++ [cur] = ptG m ws [] [] := h1
    refine fin_rt (S := S') (Abs.refl _) (h S' p (rs ++ [r]) sb hp' ?_)
    rw [← h1]
    have hrl := hR.1
    refine ⟨by rw [List.length_append, List.length_append, hrl]; rfl, fun j r' x e1 e2 => ?_⟩
    by_cases hj : j < rs.length
    · rw [List.getElem?_append_left hj] at e1
      rw [List.getElem?_append_left (by omega)] at e2
      exact hR.2 j r' x e1 e2
    · rw [List.getElem?_append_right (by omega)] at e1 e2
      rw [hrl] at e1
      cases hz : j - ds.length with
      | zero =>
        rw [hz] at e1 e2
        cases e1; cases e2
        exact hr
      | succ z => rw [hz] at e1; simp at e1

/-! ### a term read -/
theorem drop_at {α : Type} {ws r : List α} {x : α} {i : Nat} (h : ws.drop i = x :: r) : ws[i]? = some x ∧ ws.drop (i + 1) = r := by
  refine ⟨?_, ?_⟩
  · have := congrArg (fun l => l[0]?) h
    simpa using this
  · rw [← List.drop_drop, h]; rfl
structure Frm where
  w : Str
  done : List D
  todo : List D
def remF : List Frm → List Str
  | [] => []
  | f :: fs => twS f.todo ++ cW :: remF fs
def plug : List Frm → D → D
  | [], x => x
  | g :: fs, x => plug fs (.tup (.str g.w :: (g.done ++ x :: g.todo)))
def Frm.d (f : Frm) : D := .tup (.str f.w :: (f.done ++ f.todo))
def FOk (N : Nat) : Nat → List Frm → Prop
  | _, [] => True
  | b, f :: fs => isNm f.w = true ∧ fs.length ≤ N ∧ f.done.length + f.todo.length ≤ b ∧ (∀ t ∈ f.todo, ∃ m, m + fs.length + 1 ≤ N ∧ Tm WW WV m t) ∧ FOk N 99 fs
def FR (S0 S : Sto) (p : Nat) : List Nat → List Frm → Prop
  | [], [] => True
  | r :: rs, f :: fs => S r = some (.lst (.str f.w :: f.done)) ∧ S0 r = none ∧ p ≠ r ∧ r ∉ rs ∧ FR S0 S p rs fs
  | _, _ => False
theorem FR.keep {S0 S S' : Sto} {p : Nat} : ∀ {rs : List Nat} {fs : List Frm}, (∀ r ∈ rs, ∀ o, S r = some o → S' r = some o) → FR S0 S p rs fs → FR S0 S' p rs fs
  | [], [], _, _ => trivial
  | r :: rs, f :: fs, h, ⟨h1, h2, h3, h4, h5⟩ => ⟨h r (List.mem_cons_self ..) _ h1, h2, h3, h4, FR.keep (fun x hx => h x (List.mem_cons_of_mem _ hx)) h5⟩
  | [], _ :: _, _, h => h.elim
  | _ :: _, [], _, h => h.elim
theorem FR.len {S0 S : Sto} {p : Nat} : ∀ {rs : List Nat} {fs : List Frm}, FR S0 S p rs fs → rs.length = fs.length
  | [], [], _ => rfl
  | _ :: _, _ :: _, ⟨_, _, _, _, h⟩ => congrArg (· + 1) h.len
  | [], _ :: _, h => h.elim
  | _ :: _, [], h => h.elim
theorem FR.some {S0 S : Sto} {p : Nat} : ∀ {rs : List Nat} {fs : List Frm}, FR S0 S p rs fs → ∀ r ∈ rs, ∃ o, S r = some o
  | _ :: _, _ :: _, ⟨h1, _, _, _, h⟩, r, hr => by
    rcases List.mem_cons.mp hr with rfl | hr
    · exact ⟨_, h1⟩
    · exact h.some r hr
  | [], _, _, _, hr => by cases hr
  | _ :: _, [], h, _, _ => h.elim
theorem FR.notp {S0 S : Sto} {p : Nat} : ∀ {rs : List Nat} {fs : List Frm}, FR S0 S p rs fs → p ∉ rs
  | [], [], _ => fun z => by cases z
  | r :: rs, _ :: _, ⟨_, _, h3, _, h⟩ => fun z => by
    rcases List.mem_cons.mp z with z | z
    · exact h3 z
    · exact h.notp z
  | [], _ :: _, h => h.elim
  | _ :: _, [], h => h.elim
section
variable {P : Prog} {q p k : Nat} {En0 : En} {S : Sto} {i : Nat}
theorem tat_tail {M : List D} {dn w : D} (hp : S p = some (.lst M)) (h0 : dn = .non → En0.nx [some (.ref q), some (.int ((i + 1 : Nat) : Int)), some (.ref p), some w, some dn] S) (h1 : dn ≠ .non → M = [] → En0.rt (.tup [dn, .int ((i + 1 : Nat) : Int)]) S) (h2 : dn ≠ .non → M ≠ [] → ∃ M' r ds, M = M' ++ [.ref r] ∧ S r = some (.lst ds) ∧ ds.length ≤ 1000 ∧ En0.nx [some (.ref q), some (.int ((i + 1 : Nat) : Int)), some (.ref p), some w, some dn] (S.put r (.lst (ds ++ [dn])))) :
    wpSs (ctx P k) xN (Sts.drop 3 F_term_at_b0) En0 [some (.ref q), some (.int (i : Nat)), some (.ref p), some w, some dn] S := by
  simp only [F_term_at_b0, Sts.drop_s, Sts.drop_z, wpSs, wpS, wpE, wpEs, wpO, wpT, wpTs, wpB, wpCs, wpG, wpGs, wpI, wpJ, tgsLen, slot_0, slot_s, set_0, set_s, tp_tup, tp_key, tp_kt, Int.reduceLT, Int.reducePow, Int.reduceNeg, Int.reduceLE, b_add, b_sub, b_mulL, b_mulR, b_modP, b_fdivP, g_add, g_sub, c_lt, c_le, c_gt, c_ge, c_eqi, c_nei, c_eqs, c_nes, c_eqb, c_neb, c_isN, c_isnN, f_max2, f_min2, f_intb, f_int, t_bl, decide_eq_true_eq, decide_eq_false_iff_not, Bool.not_eq_true', Bool.not_eq_false', newL, ctx, int_a, true_and]
  rw [show ((i : Nat) : Int) + 1 = ((i + 1 : Nat) : Int) by omega]
  refine ⟨fun hn => ?_, fun hn => ⟨fun z => (by cases z), fun _ => ⟨fun z => ?_, h0⟩⟩⟩
  · rw [f_lenl hp]
    simp only [Int.reduceLT, Int.reducePow, Int.reduceNeg, Int.reduceLE, b_add, b_sub, b_mulL, b_mulR, b_modP, b_fdivP, g_add, g_sub, c_lt, c_le, c_gt, c_ge, c_eqi, c_nei, c_eqs, c_nes, c_eqb, c_neb, c_isN, c_isnN, f_max2, f_min2, f_intb, f_int, t_bl, decide_eq_true_eq, decide_eq_false_iff_not, Bool.not_eq_true', Bool.not_eq_false']
    refine ⟨fun hl => ?_, fun hl => ⟨fun _ => h1 hn ?_, fun z => absurd z hn⟩⟩
    · obtain ⟨M', r, ds, rfl, e1, e2, e3⟩ := h2 hn (fun z => by rw [z] at hl; simp at hl)
      rw [x_lst hp (atI_last _ _)]
      refine ⟨bb_l e1 rfl, ?_⟩
      rw [m_app e1]
      exact ⟨by rw [sizeLine_eq]; omega, e3⟩
    · have : M.length = 0 := by
        have hl : ¬ (0 : Int) < (M.length : Int) := by simpa using hl
        omega
      exact List.length_eq_zero_iff.mp this
  · exact absurd (by simpa using hn) z
end
section
variable {P : Prog} (hN : P.fn "is_name" = some ⟨.pl, 1, 2, F_is_name⟩) (g1 : P.gl "LONGEST_NAME" = some (.int 8)) (g2 : P.gl "KEPT_WORDS" = some (.kt keptD)) (g3 : P.gl "LETTERS" = some (.str letL)) (g4 : P.gl "MOST_DEEP" = some (.int 30))
  {ws : List Str} {q p k : Nat} {En0 : En} {S : Sto} {u3 u4 : Option D} {i : Nat}
include hN g1 g2 g3 g4
theorem tat_open {M : List D} {w : Str} (hq : S q = some (.lst (ws.map .str))) (hp : S p = some (.lst M)) (hM : M.length ≤ 30) (e1 : ws[i]? = some oW) (e2 : ws[i + 1]? = some w) (hw : isNm w = true) (h : ∀ r, S r = none → En0.nx [some (.ref q), some (.int ((i + 2 : Nat) : Int)), some (.ref p), some (.str oW), some .non] ((S.put r (.lst [.str w])).put p (.lst (M ++ [.ref r])))) :
    wpSs (ctx P (k + 2)) xN F_term_at_b0 En0 [some (.ref q), some (.int (i : Nat)), some (.ref p), u3, u4] S := by
  rw [wpSs_cut 3]
  generalize hR : Sts.drop 3 F_term_at_b0 = R
  simp only [F_term_at_b0, Sts.take_s, Sts.take_z, wpSs, wpS, wpE, wpEs, wpO, wpT, wpTs, wpB, wpCs, wpG, wpGs, wpI, wpJ, tgsLen, slot_0, slot_s, set_0, set_s, tp_tup, tp_key, tp_kt, Int.reduceLT, Int.reducePow, Int.reduceNeg, Int.reduceLE, b_add, b_sub, b_mulL, b_mulR, b_modP, b_fdivP, g_add, g_sub, c_lt, c_le, c_gt, c_ge, c_eqi, c_nei, c_eqs, c_nes, c_eqb, c_neb, c_isN, c_isnN, f_max2, f_min2, f_intb, f_int, t_bl, decide_eq_true_eq, decide_eq_false_iff_not, Bool.not_eq_true', Bool.not_eq_false', newL, ctx, int_a, hasF_t hN, true_and, g4]
  have x1 : ∀ {S' : Sto} {Q : QE}, S' q = some (.lst (ws.map .str)) → ixM (.ref q) (.int (i : Nat)) S' Q = Q (.str oW) S' := fun hq => x_lst hq (atI_n (by rw [List.getElem?_map, e1]; rfl))
  have x2 : ∀ {S' : Sto} {Q : QE}, S' q = some (.lst (ws.map .str)) → ixM (.ref q) (.int ((i + 1 : Nat) : Int)) S' Q = Q (.str w) S' := fun hq => x_lst hq (atI_n (by rw [List.getElem?_map, e2]; rfl))
  have hil : i + 1 < ws.length := (List.getElem?_eq_some_iff.mp e2).1
  rw [x1 hq]
  simp only [Int.reduceLT, Int.reducePow, Int.reduceNeg, Int.reduceLE, b_add, b_sub, b_mulL, b_mulR, b_modP, b_fdivP, g_add, g_sub, c_lt, c_le, c_gt, c_ge, c_eqi, c_nei, c_eqs, c_nes, c_eqb, c_neb, c_isN, c_isnN, f_max2, f_min2, f_intb, f_int, t_bl, decide_eq_true_eq, decide_eq_false_iff_not, Bool.not_eq_true', Bool.not_eq_false']
  rw [show ((i : Nat) : Int) + 1 = ((i + 1 : Nat) : Int) by omega]
  simp only [f_lenl hq, List.length_map, x2 hq, f_lenl hp]
  have npr : ∀ {r : Nat}, S r = none → p ≠ r := fun hr => by rintro rfl; rw [hp] at hr; cases hr
  refine ⟨fun _ => ?_, fun z => (by simp at z)⟩
  rw [c_eqi]
  refine ⟨fun _ => ?_, fun z => ?_⟩
  · refine name_ok hN g1 g2 g3 (k := k + 1) (by have := (nm_len hw).2; omega) ?_
    rw [hw]
    simp only [t_bl]
    refine ⟨fun _ => ?_, fun z => (by simp at z)⟩
    rw [f_lenl hp]
    simp only [Int.reduceLT, Int.reducePow, Int.reduceNeg, Int.reduceLE, b_add, b_sub, b_mulL, b_mulR, b_modP, b_fdivP, g_add, g_sub, c_lt, c_le, c_gt, c_ge, c_eqi, c_nei, c_eqs, c_nes, c_eqb, c_neb, c_isN, c_isnN, f_max2, f_min2, f_intb, f_int, t_bl, decide_eq_true_eq, decide_eq_false_iff_not, Bool.not_eq_true', Bool.not_eq_false']
    refine ⟨fun z => by omega, fun _ => ⟨bb_l hp rfl, ?_⟩⟩
    rw [x2 hq]
    intro r hr
    rw [m_app (by rw [Sto.put_ne (npr hr)]; exact hp)]
    refine ⟨by rw [sizeLine_eq]; omega, ?_⟩
    subst hR
    exact tat_tail (i := i + 1) (M := M ++ [.ref r]) Sto.put_same (fun _ => h r hr) (fun z => absurd rfl z) (fun z => absurd rfl z)
  · have : ¬ ((i + 1 : Nat) : Int) = (ws.length : Int) := by omega
    rw [decide_eq_false this] at z
    cases z
theorem tat_word {x : Str} (hq : S q = some (.lst (ws.map .str))) (e1 : ws[i]? = some x) (hx : isNm x = true) (h : wpSs (ctx P (k + 2)) xN (Sts.drop 3 F_term_at_b0) En0 [some (.ref q), some (.int (i : Nat)), some (.ref p), some (.str x), some (.str x)] S) :
    wpSs (ctx P (k + 2)) xN F_term_at_b0 En0 [some (.ref q), some (.int (i : Nat)), some (.ref p), u3, u4] S := by
  rw [wpSs_cut 3]
  generalize hR : Sts.drop 3 F_term_at_b0 = R at h ⊢
  simp only [F_term_at_b0, Sts.take_s, Sts.take_z, wpSs, wpS, wpE, wpEs, wpO, wpT, wpTs, wpB, wpCs, wpG, wpGs, wpI, wpJ, tgsLen, slot_0, slot_s, set_0, set_s, tp_tup, tp_key, tp_kt, Int.reduceLT, Int.reducePow, Int.reduceNeg, Int.reduceLE, b_add, b_sub, b_mulL, b_mulR, b_modP, b_fdivP, g_add, g_sub, c_lt, c_le, c_gt, c_ge, c_eqi, c_nei, c_eqs, c_nes, c_eqb, c_neb, c_isN, c_isnN, f_max2, f_min2, f_intb, f_int, t_bl, decide_eq_true_eq, decide_eq_false_iff_not, Bool.not_eq_true', Bool.not_eq_false', newL, ctx, int_a, hasF_t hN, true_and, g4]
  have x1 : ∀ {S' : Sto} {Q : QE}, S' q = some (.lst (ws.map .str)) → ixM (.ref q) (.int (i : Nat)) S' Q = Q (.str x) S' := fun hq => x_lst hq (atI_n (by rw [List.getElem?_map, e1]; rfl))
  rw [x1 hq]
  simp only [Int.reduceLT, Int.reducePow, Int.reduceNeg, Int.reduceLE, b_add, b_sub, b_mulL, b_mulR, b_modP, b_fdivP, g_add, g_sub, c_lt, c_le, c_gt, c_ge, c_eqi, c_nei, c_eqs, c_nes, c_eqb, c_neb, c_isN, c_isnN, f_max2, f_min2, f_intb, f_int, t_bl, decide_eq_true_eq, decide_eq_false_iff_not, Bool.not_eq_true', Bool.not_eq_false']
  have n1 : x ≠ oW := nm_ne hx oW_no
  have n2 : x ≠ cW := nm_ne hx cW_no
  refine ⟨fun z => absurd z n1, fun _ => ⟨fun z => absurd z n2, fun _ => ⟨fun z => (by cases z), fun _ => ?_⟩⟩⟩
  refine name_ok hN g1 g2 g3 (k := k + 1) (by have := (nm_len hx).2; omega) ?_
  rw [hx]
  simp only [t_bl]
  exact ⟨fun _ => h, fun z => (by cases z)⟩
theorem tat_close {M : List D} {r : Nat} {ds : List D} (hq : S q = some (.lst (ws.map .str))) (e1 : ws[i]? = some cW) (hp : S p = some (.lst (M ++ [.ref r]))) (hr : S r = some (.lst ds)) (npr : p ≠ r) (h : wpSs (ctx P (k + 2)) xN (Sts.drop 3 F_term_at_b0) En0 [some (.ref q), some (.int (i : Nat)), some (.ref p), some (.str cW), some (.tup ds)] (S.put p (.lst M))) :
    wpSs (ctx P (k + 2)) xN F_term_at_b0 En0 [some (.ref q), some (.int (i : Nat)), some (.ref p), u3, u4] S := by
  rw [wpSs_cut 3]
  generalize hR : Sts.drop 3 F_term_at_b0 = R at h ⊢
  simp only [F_term_at_b0, Sts.take_s, Sts.take_z, wpSs, wpS, wpE, wpEs, wpO, wpT, wpTs, wpB, wpCs, wpG, wpGs, wpI, wpJ, tgsLen, slot_0, slot_s, set_0, set_s, tp_tup, tp_key, tp_kt, Int.reduceLT, Int.reducePow, Int.reduceNeg, Int.reduceLE, b_add, b_sub, b_mulL, b_mulR, b_modP, b_fdivP, g_add, g_sub, c_lt, c_le, c_gt, c_ge, c_eqi, c_nei, c_eqs, c_nes, c_eqb, c_neb, c_isN, c_isnN, f_max2, f_min2, f_intb, f_int, t_bl, decide_eq_true_eq, decide_eq_false_iff_not, Bool.not_eq_true', Bool.not_eq_false', newL, ctx, int_a, hasF_t hN, true_and, g4]
  have x1 : ∀ {S' : Sto} {Q : QE}, S' q = some (.lst (ws.map .str)) → ixM (.ref q) (.int (i : Nat)) S' Q = Q (.str cW) S' := fun hq => x_lst hq (atI_n (by rw [List.getElem?_map, e1]; rfl))
  rw [x1 hq]
  simp only [Int.reduceLT, Int.reducePow, Int.reduceNeg, Int.reduceLE, b_add, b_sub, b_mulL, b_mulR, b_modP, b_fdivP, g_add, g_sub, c_lt, c_le, c_gt, c_ge, c_eqi, c_nei, c_eqs, c_nes, c_eqb, c_neb, c_isN, c_isnN, f_max2, f_min2, f_intb, f_int, t_bl, decide_eq_true_eq, decide_eq_false_iff_not, Bool.not_eq_true', Bool.not_eq_false', f_lenl hp]
  refine ⟨fun z => absurd z (by decide +kernel), fun _ => ⟨fun _ => ⟨fun _ => ⟨bb_l hp rfl, ?_⟩, fun z => ?_⟩, fun z => (by simp at z)⟩⟩
  · rw [m_pop0 hp List.getLast?_concat, List.dropLast_concat, f_tupl (by rw [Sto.put_ne npr.symm]; exact hr)]
    exact h
  · exfalso
    rw [List.length_append] at z
    exact z (by show (0 : Int) < ((_ + 1 : Nat) : Int); omega)
theorem tat_ok (hP : P.fn "term_at" = some ⟨.pl, 2, 5, F_term_at⟩) {N : Nat} (hNn : N ≤ 29) {d : D} (hd : Tm WW WV N d) {post : List Str} {at0 : Nat} {Q : QE} (hq : S q = some (.lst (ws.map .str))) (hl : ws.length ≤ 10000) (hw : ws.drop at0 = tw d ++ post) (h : Q (.tup [d, .int ((at0 + (tw d).length : Nat) : Int)]) S) : wpCall P (k + 3) .pl "term_at" [.ref q, .int (at0 : Nat)] S Q xN := by
  refine call_c' (k := k + 2) hP [some (.ref q), some (.int (at0 : Nat)), none, none, none] rfl rfl ?_
  simp only [F_term_at, wpSs, wpS, wpE, wpEs, wpO, wpT, wpTs, wpB, wpCs, wpG, wpGs, wpI, wpJ, tgsLen, slot_0, slot_s, set_0, set_s, tp_tup, tp_key, tp_kt, Int.reduceLT, Int.reducePow, Int.reduceNeg, Int.reduceLE, b_add, b_sub, b_mulL, b_mulR, b_modP, b_fdivP, g_add, g_sub, c_lt, c_le, c_gt, c_ge, c_eqi, c_nei, c_eqs, c_nes, c_eqb, c_neb, c_isN, c_isnN, f_max2, f_min2, f_intb, f_int, t_bl, decide_eq_true_eq, decide_eq_false_iff_not, Bool.not_eq_true', Bool.not_eq_false', newL, ctx, int_a, true_and]
  intro p hp
  have nqp : q ≠ p := by walk_at "stne"
  refine whl_gen (fun n σ S' => ∃ (at' : Nat) (u3 u4 : Option D), n = ws.length - at' ∧ Sub S S' ∧ σ = [some (.ref q), some (.int (at' : Nat)), some (.ref p), u3, u4] ∧
     ((at' = at0 ∧ S' p = some (.lst [])) ∨ ∃ f fs r rs, S' p = some (.lst ((r :: rs).reverse.map .ref)) ∧ FR S S' p (r :: rs) (f :: fs) ∧ FOk N 100 (f :: fs) ∧ plug fs f.d = d ∧ ws.drop at' = remF (f :: fs) ++ post ∧ at' + (remF (f :: fs)).length = at0 + (tw d).length)) (fun n σ S' hI K hKK => ?_) ⟨at0, none, none, rfl, Sub.put hp, rfl, .inl ⟨rfl, Sto.put_same⟩⟩
  obtain ⟨at', u3, u4, rfl, sb, rfl, hI⟩ := hI
  have hq' := sb _ _ hq
  simp only [slot_s, slot_0, tp_tup, tp_key, tp_kt]
  rw [f_lenl hq', List.length_map]
  simp only [Int.reduceLT, Int.reducePow, Int.reduceNeg, Int.reduceLE, b_add, b_sub, b_mulL, b_mulR, b_modP, b_fdivP, g_add, g_sub, c_lt, c_le, c_gt, c_ge, c_eqi, c_nei, c_eqs, c_nes, c_eqb, c_neb, c_isN, c_isnN, f_max2, f_min2, f_intb, f_int, t_bl, decide_eq_true_eq, decide_eq_false_iff_not, Bool.not_eq_true', Bool.not_eq_false']
  have ne : ∀ {r : Nat}, S' r = none → S r = none := fun {r} hr => by
    cases e : S r with
    | none => rfl
    | some o => rw [sb _ _ e] at hr; cases hr
  have lt : ∀ {x : Str} {r : List Str}, ws.drop at' = x :: r → at' < ws.length := fun {x r} e => by
    rcases Nat.lt_or_ge at' ws.length with h | h
    · exact h
    · rw [List.drop_eq_nil_of_le h] at e; cases e
  rcases hI with ⟨rfl, hp'⟩ | ⟨f, fs, r, rs, hp', hR, hF, hpl, hdr, hln⟩
  · rcases tw_split hd with ⟨x, hx, rfl⟩ | ⟨w, ts, hwn, htl, rfl, _, ht⟩
    · have hw : ws.drop at' = x :: post := hw
      have := lt hw
      refine ⟨fun _ => ?_, fun z => by omega⟩
      refine tat_word hN g1 g2 g3 g4 hq' (drop_at hw).1 hx ?_
      exact tat_tail hp' (fun z => by cases z) (fun _ _ => fin_rt (Abs.of sb) h) (fun _ z => absurd rfl z)
    · have hw : ws.drop at' = oW :: w :: (remF [⟨w, [], ts⟩] ++ post) := by
        rw [hw, tw_tup]; simp [remF]
      have l1 := lt hw
      refine ⟨fun _ => ?_, fun z => by omega⟩
      obtain ⟨a1, a2⟩ := drop_at hw
      obtain ⟨a3, a4⟩ := drop_at a2
      refine tat_open hN g1 g2 g3 g4 hq' hp' (by simp) a1 a3 hwn fun r hr => ?_
      have npr : p ≠ r := by rintro rfl; rw [hp'] at hr; cases hr
      refine hKK (ws.length - (at' + 2)) _ _ _ (by omega) ⟨at' + 2, _, _, rfl, sub_old (Sub.trans sb (Sub.put hr)) hp, rfl, .inr ⟨⟨w, [], ts⟩, [], r, [], Sto.put_same, ⟨?_, ne hr, npr, (fun z => by cases z), trivial⟩, ⟨hwn, Nat.zero_le _, by show 0 + ts.length ≤ 100; omega, fun t htm => ?_, trivial⟩, rfl, a4, ?_⟩⟩ (Abs.refl _)
      · rw [Sto.put_ne npr.symm]; exact Sto.put_same
      · rcases hd.split with ⟨x, _, z⟩ | ⟨w', ts', _, z, hm⟩
        · cases z
        · cases z
          obtain ⟨m, m1, m2⟩ := hm t htm
          exact ⟨m, by show m + 0 + 1 ≤ N; omega, m2⟩
      · rw [tw_tup]; simp [remF]; omega
  · obtain ⟨fw, fd, ft⟩ := f
    obtain ⟨hr, hrS, npr, nrs, hRr⟩ := hR
    obtain ⟨f1, f2, f3, f4, f5⟩ := hF
    have f3 : fd.length + ft.length ≤ 100 := f3
    cases ft with
    | nil =>
      have hdr : ws.drop at' = cW :: (remF fs ++ post) := hdr
      have l1 := lt hdr
      refine ⟨fun _ => ?_, fun z => by omega⟩
      obtain ⟨a1, a2⟩ := drop_at hdr
      refine tat_close hN g1 g2 g3 g4 (M := rs.reverse.map .ref) hq' a1 (by rw [hp', List.reverse_cons, List.map_append]; rfl) hr npr ?_
      have hln : at' + (1 + (remF fs).length) = at0 + (tw d).length := by rw [← hln]; show _ = at' + ((remF fs).length + 1); omega
      refine tat_tail Sto.put_same (fun z => by cases z) (fun _ z => ?_) (fun _ z => ?_)
      · have hz : rs = [] := by simpa using z
        subst hz
        cases fs with
        | cons g fs => exact hRr.elim
        | nil =>
          have e : d = .tup (.str fw :: fd) := by rw [← hpl]; show D.tup (.str fw :: (fd ++ [])) = _; rw [List.append_nil]
          have hln : at' + 1 = at0 + (tw d).length := hln
          rw [hln]
          rw [e] at h ⊢
          exact fin_rt (Abs.of (sub_old sb hp)) h
      · cases rs with
        | nil => exact absurd rfl z
        | cons r2 rs =>
          cases fs with
          | nil => exact hRr.elim
          | cons g fs =>
            obtain ⟨gw, gd, gt⟩ := g
            obtain ⟨b1, b2, b3, b4, b5⟩ := hRr
            obtain ⟨c1, c2, c3, c4, c5⟩ := f5
            have c3 : gd.length + gt.length ≤ 99 := c3
            have hx : ∀ x o, p ≠ x → S' x = some o → (S'.put p (.lst ((r2 :: rs).reverse.map .ref))) x = some o := fun x o n e => by rw [Sto.put_ne n.symm]; exact e
            refine ⟨rs.reverse.map .ref, r2, .str gw :: gd, by rw [List.reverse_cons, List.map_append]; rfl, hx _ _ b3 b1, by show gd.length + 1 ≤ _; omega, ?_⟩
            refine hKK (ws.length - (at' + 1)) _ _ _ (by omega) ⟨at' + 1, _, _, rfl, sub_old (sub_old sb hp) b2, rfl, .inr ⟨⟨gw, gd ++ [.tup (.str fw :: fd)], gt⟩, fs, r2, rs, by rw [Sto.put_ne b3]; exact Sto.put_same, ⟨Sto.put_same, b2, b3, b4, FR.keep (fun x hx' o e => ?_) b5⟩, ⟨c1, c2, ?_, c4, c5⟩, ?_, a2, ?_⟩⟩ (Abs.refl _)
            · rw [Sto.put_ne (fun z => b4 (by rw [← z]; exact hx'))]
              exact hx _ _ (fun z => b5.notp (by rw [z]; exact hx')) e
            · show (gd ++ [D.tup (.str fw :: fd)]).length + gt.length ≤ 100
              rw [List.length_append]; show gd.length + 1 + gt.length ≤ 100; omega
            · rw [← hpl]
              show plug fs (.tup (.str gw :: ((gd ++ [.tup (.str fw :: fd)]) ++ gt))) = plug fs (.tup (.str gw :: (gd ++ .tup (.str fw :: (fd ++ [])) :: gt)))
              rw [List.append_nil, List.append_assoc]; rfl
            · rw [← hln]; show at' + 1 + (remF (⟨gw, gd, gt⟩ :: fs)).length = _; omega
    | cons t ts =>
      have f3 : fd.length + (ts.length + 1) ≤ 100 := f3
      obtain ⟨m, m1, m2⟩ := f4 t (List.mem_cons_self ..)
      rcases m2.split with ⟨x, hx, rfl⟩ | ⟨w, us, hw', rfl, hus⟩
      · have hdr : ws.drop at' = x :: (remF (⟨fw, fd ++ [.str x], ts⟩ :: fs) ++ post) := hdr
        have l1 := lt hdr
        refine ⟨fun _ => ?_, fun z => by omega⟩
        obtain ⟨a1, a2⟩ := drop_at hdr
        refine tat_word hN g1 g2 g3 g4 hq' a1 hx ?_
        refine tat_tail hp' (fun z => by cases z) (fun _ z => ?_) (fun _ _ => ⟨rs.reverse.map .ref, r, .str fw :: fd, by rw [List.reverse_cons, List.map_append]; rfl, hr, by show fd.length + 1 ≤ _; omega, ?_⟩)
        · simp at z
        refine hKK (ws.length - (at' + 1)) _ _ _ (by omega) ⟨at' + 1, _, _, rfl, sub_old sb hrS, rfl, .inr ⟨⟨fw, fd ++ [.str x], ts⟩, fs, r, rs, by rw [Sto.put_ne npr]; exact hp', ⟨Sto.put_same, hrS, npr, nrs, FR.keep (fun y hy o e => ?_) hRr⟩, ⟨f1, f2, ?_, fun t ht => f4 t (List.mem_cons_of_mem _ ht), f5⟩, ?_, a2, ?_⟩⟩ (Abs.refl _)
        · rw [Sto.put_ne (fun z => nrs (by rw [← z]; exact hy))]; exact e
        · show (fd ++ [D.str x]).length + ts.length ≤ 100
          rw [List.length_append]; show fd.length + 1 + ts.length ≤ 100; omega
        · rw [← hpl]
          show plug fs (.tup (.str fw :: ((fd ++ [.str x]) ++ ts))) = plug fs (.tup (.str fw :: (fd ++ .str x :: ts)))
          rw [List.append_assoc]; rfl
        · rw [← hln]; show at' + 1 + (remF (⟨fw, fd, ts⟩ :: fs)).length = at' + ((remF (⟨fw, fd, ts⟩ :: fs)).length + 1); omega
      · have er : remF (⟨fw, fd, .tup (.str w :: us) :: ts⟩ :: fs) = oW :: w :: remF (⟨w, [], us⟩ :: ⟨fw, fd, ts⟩ :: fs) := by
          simp [remF, twS, tw_tup]
        rw [er] at hdr hln
        have l1 := lt hdr
        refine ⟨fun _ => ?_, fun z => by omega⟩
        obtain ⟨a1, a2⟩ := drop_at hdr
        obtain ⟨a3, a4⟩ := drop_at a2
        have hrl := hRr.len
        have f2 : fs.length ≤ N := f2
        refine tat_open hN g1 g2 g3 g4 hq' hp' (by rw [List.length_map, List.length_reverse, List.length_cons, hrl]; omega) a1 a3 hw'.1 fun v hv => ?_
        have npv : p ≠ v := by rintro rfl; rw [hp'] at hv; cases hv
        have hR2 : FR S S' p (r :: rs) (⟨fw, fd, ts⟩ :: fs) := ⟨hr, hrS, npr, nrs, hRr⟩
        refine hKK (ws.length - (at' + 2)) _ _ _ (by omega) ⟨at' + 2, _, _, rfl, sub_old (Sub.trans sb (Sub.put hv)) hp, rfl, .inr ⟨⟨w, [], us⟩, ⟨fw, fd, ts⟩ :: fs, v, r :: rs, by rw [Sto.put_same, List.reverse_cons (a := v), List.map_append]; rfl, ⟨?_, ne hv, npv, fun z => ?_, FR.keep (fun y hy o e => ?_) hR2⟩, ⟨hw'.1, by show fs.length + 1 ≤ N; omega, by have := hw'.2; show 0 + us.length ≤ 100; omega, fun u hu => ?_, f1, f2, by show fd.length + ts.length ≤ 99; omega, fun t ht => f4 t (List.mem_cons_of_mem _ ht), f5⟩, hpl, a4, ?_⟩⟩ (Abs.refl _)
        · rw [Sto.put_ne npv.symm]; exact Sto.put_same
        · obtain ⟨o, e⟩ := hR2.some v z
          rw [hv] at e; cases e
        · rw [Sto.put_ne (fun z => hR2.notp (by rw [← z]; exact hy)), Sto.put_ne (fun z => by rw [z, hv] at e; cases e)]
          exact e
        · obtain ⟨m', m3, m4⟩ := hus u hu
          exact ⟨m', by show m' + (fs.length + 1) + 1 ≤ N; omega, m4⟩
        · rw [← hln]; simp only [List.length_cons]; omega
end

/-! ### the reader -/
theorem twS_ge {n : Nat} : ∀ {ts : List D}, (∀ t ∈ ts, Tm WW WV n t) → ts.length ≤ (twS ts).length
  | [], _ => Nat.le_refl _
  | t :: ts, h => by
    have h1 := twS_ge fun x hx => h x (List.mem_cons_of_mem _ hx)
    have h2 := List.length_pos_iff.mpr (tw_ne (h t (List.mem_cons_self ..)))
    show ts.length + 1 ≤ (tw t ++ twS ts).length
    rw [List.length_append]; omega
theorem nmem_nonT {ds : List D} {a : Nat} {S : Sto} {B : Bool → Prop} (hw : ∀ d ∈ ds, d = .non ∨ ∃ xs, d = .tup xs ∧ plainDs xs = true) (ha : S a = some (.lst ds)) (h : B (!decide (D.non ∈ ds))) : cmpM .nmem .non (.ref a) S B := by
  show (match S a with
    | some (.lst ds) => memM.memF .non ds S fun b => B (!b)
    | some (.rol ds) => memM.memF .non ds S fun b => B (!b)
    | some (.dct t kvs) => isKey t .non = true ∧ B (!(lookD kvs .non).isSome)
    | _ => False)
  rw [ha]
  show memM.memF .non ds S fun b => B (!b)
  unfold memM.memF
  have e1 : ∀ ds : List D, (∀ d ∈ ds, d = .non ∨ ∃ xs, d = .tup xs ∧ plainDs xs = true) → ((D.pys ds).any fun z => PyData.eqv z .none) = decide (D.non ∈ ds) ∧ ((ds.all flatD) = true → (ds.any fun y => eqF y .non) = decide (D.non ∈ ds)) := fun ds => by
    induction ds with
    | nil => exact fun _ => ⟨rfl, fun _ => rfl⟩
    | cons d ds ih =>
      intro hw
      obtain ⟨i1, i2⟩ := ih fun x hx => hw x (by simp [hx])
      refine ⟨?_, fun hf => ?_⟩
      · show (PyData.eqv d.py .none || (D.pys ds).any fun z => PyData.eqv z .none) = _
        rw [i1]
        rcases hw d (by simp) with rfl | ⟨xs, rfl, _⟩
        · simp [PyData.eqv, D.py]
        · simp [PyData.eqv, D.py]
      · rw [List.all_cons, Bool.and_eq_true] at hf
        show (eqF d .non || ds.any fun y => eqF y .non) = _
        rw [i2 hf.2]
        rcases hw d (by simp) with rfl | ⟨xs, rfl, _⟩
        · simp [eqF]
        · exact absurd hf.1 (by simp [flatD])
  cases hf : flatD .non && ds.all flatD with
  | true =>
    show B (!(ds.any fun y => eqF y .non))
    rw [Bool.and_eq_true] at hf
    rw [(e1 ds hw).2 hf.2]; exact h
  | false =>
    show (match pyv S .non, D.pyWs (pyA S 16) ds with
      | some d, some es => (PyData.depthAll es ≤ 63 ∨ d.depth ≤ 63) ∧ B (!(es.any fun z => PyData.eqv z d))
      | _, _ => False)
    rw [pyv_plain (d := .non) rfl, pyWs_plain _ ds (plainDs_iff.mpr fun d hd => by
      rcases hw d hd with rfl | ⟨xs, rfl, hx⟩
      · rfl
      · exact hx)]
    refine ⟨.inr (by decide), ?_⟩
    rw [show (D.non).py = .none from rfl, (e1 ds hw).1]; exact h

theorem mem_nonT {ds : List D} {a : Nat} {S : Sto} {B : Bool → Prop} (hw : ∀ d ∈ ds, ∃ xs, d = .tup xs ∧ plainDs xs = true) (ha : S a = some (.lst ds)) (h : B false) : cmpM .mem .non (.ref a) S B := by
  have := nmem_nonT (B := fun b => B (!b)) (fun d hd => .inr (hw d hd)) ha (by
    have : decide (D.non ∈ ds) = false := decide_eq_false fun z => by obtain ⟨xs, e, _⟩ := hw _ z; cases e
    rw [this]; exact h)
  have this : memM .non (.ref a) S (fun b => B (!!b)) := this
  simp only [Bool.not_not] at this
  exact this
theorem waD_plain {a : Str × List D} (ha : WAt a) : ∃ xs, waD a = .tup xs ∧ plainDs xs = true := by
  refine ⟨_, rfl, ?_⟩
  show (true && (plainDs a.2 && true)) = true
  rw [Bool.and_true, Bool.true_and]
  exact plainDs_iff.mpr fun t ht => (ha.tm t ht).1.plain
section
variable {P : Prog} (hN : P.fn "is_name" = some ⟨.pl, 1, 2, F_is_name⟩) (g1 : P.gl "LONGEST_NAME" = some (.int 8)) (g2 : P.gl "KEPT_WORDS" = some (.kt keptD)) (g3 : P.gl "LETTERS" = some (.str letL)) (g4 : P.gl "MOST_DEEP" = some (.int 30)) (gS : P.gl "str" = some (.ty "str"))
  (hT : P.fn "term_at" = some ⟨.pl, 2, 5, F_term_at⟩) (hD : P.fn "deep" = some ⟨.pl, 1, 2, F_deep⟩)
include hN g1 g2 g3 g4 gS hT hD
theorem dp_le {n : Nat} : ∀ {d : D}, Tm WW WV n d → dp d ≤ n := by
  induction n with
  | zero =>
    intro d h
    rcases h with ⟨x, _, rfl⟩ | ⟨w, _, rfl⟩ <;> exact Nat.le_refl _
  | succ n ih =>
    intro d h
    rcases h with ⟨x, _, rfl⟩ | ⟨w, ts, _, rfl, ht⟩
    · exact Nat.zero_le _
    · have go : ∀ us : List D, (∀ u ∈ us, Tm WW WV n u) → dpM us ≤ n := fun us => by
        induction us with
        | nil => intro _; exact Nat.zero_le _
        | cons u us ih2 =>
          intro hu
          have h1 := ih (hu u (List.mem_cons_self ..))
          have h2 := ih2 fun x hx => hu x (List.mem_cons_of_mem _ hx)
          show max (dp u) (dpM us) ≤ n
          omega
      cases ts with
      | nil => exact Nat.zero_le _
      | cons t ts =>
        show 1 + dpM (t :: ts) ≤ n + 1
        have := go _ ht
        omega
theorem tin_ok (hP : P.fn "terms_in" = some ⟨.pl, 1, 4, F_terms_in⟩) {ts : List D} (htm : ∀ t ∈ ts, Tm WW WV 8 t) {q : Nat} {k : Nat} {S : Sto} {Q : QE} (hq : S q = some (.lst ((twS ts).map .str))) (hl : (twS ts).length ≤ 10000) (h : Q (.tup ts) S) : wpCall P (k + 10) .pl "terms_in" [.ref q] S Q xN := by
  refine call_c' (k := k + 9) hP [some (.ref q), none, none, none] rfl rfl ?_
  simp only [F_terms_in, wpSs, wpS, wpE, wpEs, wpO, wpT, wpTs, wpB, wpCs, wpG, wpGs, wpI, wpJ, tgsLen, slot_0, slot_s, set_0, set_s, tp_tup, tp_key, tp_kt, Int.reduceLT, Int.reducePow, Int.reduceNeg, Int.reduceLE, b_add, b_sub, b_mulL, b_mulR, b_modP, b_fdivP, g_add, g_sub, c_lt, c_le, c_gt, c_ge, c_eqi, c_nei, c_eqs, c_nes, c_eqb, c_neb, c_isN, c_isnN, f_max2, f_min2, f_intb, f_int, t_bl, decide_eq_true_eq, decide_eq_false_iff_not, Bool.not_eq_true', Bool.not_eq_false', newL, ctx, int_a, hasF_t hT, hasF_t hD, true_and, g4]
  intro p hp
  have nqp : q ≠ p := by walk_at "stne"
  refine whl_gen (fun n σ S' => ∃ (i : Nat) (u3 : Option D), n = ts.length - i ∧ i ≤ ts.length ∧ S' = S.put p (.lst (ts.take i)) ∧ σ = [some (.ref q), some (.ref p), some (.int ((twS (ts.take i)).length : Nat)), u3]) (fun n σ S' hI K hKK => ?_) ⟨0, none, rfl, Nat.zero_le _, rfl, rfl⟩
  obtain ⟨i, u3, rfl, hi, rfl, rfl⟩ := hI
  have hq' : (S.put p (.lst (ts.take i))) q = some (.lst ((twS ts).map .str)) := by walk_at "stk"
  simp only [slot_s, slot_0, tp_tup, tp_key, tp_kt]
  rw [f_lenl hq', List.length_map]
  simp only [Int.reduceLT, Int.reducePow, Int.reduceNeg, Int.reduceLE, b_add, b_sub, b_mulL, b_mulR, b_modP, b_fdivP, g_add, g_sub, c_lt, c_le, c_gt, c_ge, c_eqi, c_nei, c_eqs, c_nes, c_eqb, c_neb, c_isN, c_isnN, f_max2, f_min2, f_intb, f_int, t_bl, decide_eq_true_eq, decide_eq_false_iff_not, Bool.not_eq_true', Bool.not_eq_false']
  rcases Nat.lt_or_ge i ts.length with hlt | hge
  · have et : ts[i]? = some (ts[i]'hlt) := List.getElem?_eq_getElem hlt
    generalize ts[i]'hlt = t at et
    have hd : ts.drop i = t :: ts.drop (i + 1) := by
      rw [List.drop_eq_getElem_cons hlt, (List.getElem?_eq_some_iff.mp et).2]
    have e0 : twS ts = twS (ts.take i) ++ (tw t ++ twS (ts.drop (i + 1))) := by
      have := twS_app (ts.take i) (ts.drop i)
      rw [List.take_append_drop, hd] at this
      exact this
    have htt := htm t (List.mem_of_getElem? et)
    have hn := tw_ne htt
    have hpos : 0 < (tw t).length := List.length_pos_iff.mpr hn
    have l0 := congrArg List.length e0
    rw [List.length_append, List.length_append] at l0
    refine ⟨fun _ => ?_, fun z => by omega⟩
    refine tat_ok hN g1 g2 g3 g4 (k := k + 6) hT (N := 8) (by decide) htt (post := twS (ts.drop (i + 1))) hq' hl (by rw [e0, List.drop_left]) ?_
    simp only [List.set, slot_s, slot_0, tp_tup, tp_key, tp_kt, x_t0, x_t1]
    refine ⟨fun _ => deep_ok (k := k) gS hD (fun _ _ h => Nat.le_trans h.2 (by decide)) (fun x hx => Nat.le_trans (nm_len hx).2 (by decide)) 8 htt ?_, fun z => (by cases z)⟩
    have hdp := dp_le hN g1 g2 g3 g4 gS hT hD htt
    rw [c_gt]
    refine ⟨fun z => ?_, fun _ => ⟨bb_l Sto.put_same rfl, ?_⟩⟩
    · have : ¬ ((dp t : Nat) : Int) > 30 := by omega
      rw [decide_eq_false this] at z; cases z
    rw [m_app Sto.put_same, Sto.put_put]
    refine ⟨by have := twS_ge htm; rw [sizeLine_eq, List.length_take]; omega, hKK (ts.length - (i + 1)) _ _ _ (by omega) ⟨i + 1, _, rfl, hlt, by rw [take_snoc et], by rw [take_snoc et, twS_app, List.length_append, show twS [t] = tw t ++ [] from rfl, List.append_nil]⟩ (Abs.refl _)⟩
  · have : i = ts.length := by omega
    subst this
    rw [List.take_length]
    refine ⟨fun z => by omega, fun _ => ?_⟩
    rw [f_tupl Sto.put_same]
    exact fin_rt (Abs.put hp) h
theorem ain_ok (hTi : P.fn "terms_in" = some ⟨.pl, 1, 4, F_terms_in⟩) (hP : P.fn "atom_in" = some ⟨.pl, 1, 2, F_atom_in⟩) {a : Str × List D} (ha : WAt a) {q : Nat} {k : Nat} {S : Sto} {Q : QE} (hq : S q = some (.lst ((aw a).map .str))) (h : Q (waD a) S) : wpCall P (k + 11) .pl "atom_in" [.ref q] S Q xN := by
  obtain ⟨x, ts⟩ := a
  have hlen : (twS ts).length ≤ 45 := ha.len
  have hne : 1 ≤ ts.length := ha.ne
  have htm : ∀ t ∈ ts, Tm WW WV 4 t := fun t ht => (ha.tm t ht).1
  have hge := twS_ge htm
  have hx : isNm x = true := ha.nm
  have x0 : ∀ {S' : Sto} {Q : QE}, S' q = some (.lst ((x :: twS ts).map .str)) → ixM (.ref q) (.int 0) S' Q = Q (.str x) S' := fun hq => x_lst hq (atI_n (n := 0) rfl)
  have hq : S q = some (.lst ((x :: twS ts).map .str)) := hq
  refine call_c' (k := k + 10) hP [some (.ref q), none] rfl rfl ?_
  simp only [F_atom_in, wpSs, wpS, wpE, wpEs, wpO, wpT, wpTs, wpB, wpCs, wpG, wpGs, wpI, wpJ, tgsLen, slot_0, slot_s, set_0, set_s, tp_tup, tp_key, tp_kt, Int.reduceLT, Int.reducePow, Int.reduceNeg, Int.reduceLE, b_add, b_sub, b_mulL, b_mulR, b_modP, b_fdivP, g_add, g_sub, c_lt, c_le, c_gt, c_ge, c_eqi, c_nei, c_eqs, c_nes, c_eqb, c_neb, c_isN, c_isnN, f_max2, f_min2, f_intb, f_int, t_bl, decide_eq_true_eq, decide_eq_false_iff_not, Bool.not_eq_true', Bool.not_eq_false', newL, ctx, int_a, hasF_t hN, hasF_t hTi, true_and]
  rw [f_lenl hq, List.length_map, List.length_cons]
  simp only [Int.reduceLT, Int.reducePow, Int.reduceNeg, Int.reduceLE, b_add, b_sub, b_mulL, b_mulR, b_modP, b_fdivP, g_add, g_sub, c_lt, c_le, c_gt, c_ge, c_eqi, c_nei, c_eqs, c_nes, c_eqb, c_neb, c_isN, c_isnN, f_max2, f_min2, f_intb, f_int, t_bl, decide_eq_true_eq, decide_eq_false_iff_not, Bool.not_eq_true', Bool.not_eq_false', x0 hq]
  refine ⟨fun _ => ?_, fun z => ?_⟩
  · refine name_ok hN g1 g2 g3 (k := k + 9) (by have := (nm_len hx).2; omega) ?_
    rw [hx]
    simp only [t_bl]
    refine ⟨fun z => (by simp at z), fun _ => ?_⟩
    rw [s_lst hq]
    intro p hp
    have nqp : q ≠ p := by walk_at "stne"
    rw [show cutL ((x :: twS ts).map D.str) (some 1) none = (twS ts).map D.str from cut1]
    refine tin_ok hN g1 g2 g3 g4 gS hT hD hTi (k := k) (ts := ts) (fun t ht => (htm t ht).le (by decide)) Sto.put_same (by omega) ?_
    refine ⟨fun z => (by cases z), fun _ => ?_⟩
    rw [x0 (by walk_at "stk")]
    exact fin_rt (Abs.put hp) h
  · exfalso
    have : ¬ (((twS ts).length + 1 : Nat) : Int) < 2 := by omega
    rw [decide_eq_false this] at z; cases z
theorem asin_ok (hTi : P.fn "terms_in" = some ⟨.pl, 1, 4, F_terms_in⟩) (hA : P.fn "atom_in" = some ⟨.pl, 1, 2, F_atom_in⟩) (hPt : P.fn "parted_at" = some ⟨.pl, 2, 4, F_parted_at⟩) (hP : P.fn "atoms_in" = some ⟨.pl, 1, 3, F_atoms_in⟩) {s : List (Str × List D)} (hs : s ≠ []) (hl : s.length ≤ 9) (ha : ∀ a ∈ s, WAt a) {q : Nat} {k : Nat} {S : Sto} {Q : QE} (hq : S q = some (.lst ((sdW s).map .str))) (h : Q (.tup (s.map waD)) S) : wpCall P (k + 12) .pl "atoms_in" [.ref q] S Q xN := by
  refine call_c' (k := k + 11) hP [some (.ref q), none, none] rfl rfl ?_
  simp only [F_atoms_in, wpSs, wpS, wpE, wpEs, wpO, wpT, wpTs, wpB, wpCs, wpG, wpGs, wpI, wpJ, tgsLen, slot_0, slot_s, set_0, set_s, tp_tup, tp_key, tp_kt, Int.reduceLT, Int.reducePow, Int.reduceNeg, Int.reduceLE, b_add, b_sub, b_mulL, b_mulR, b_modP, b_fdivP, g_add, g_sub, c_lt, c_le, c_gt, c_ge, c_eqi, c_nei, c_eqs, c_nes, c_eqb, c_neb, c_isN, c_isnN, f_max2, f_min2, f_intb, f_int, t_bl, decide_eq_true_eq, decide_eq_false_iff_not, Bool.not_eq_true', Bool.not_eq_false', newL, ctx, int_a, hasF_t hPt, hasF_t hA, true_and]
  have hsl := sdW_len ha
  refine ptd_ok hPt (k := k + 10) hq (by omega) fun S1 p rs sb hp hR => ?_
  have hcm : ∀ a ∈ s, cmW ∉ aw a := fun a h z => by
    have := (ha a h).wd _ z
    exact Wd.ne this (y := cmW) (by decide +kernel) (by decide +kernel) (by decide +kernel) rfl
  have hpt : ptG cmW (sdW s) [] [] = s.map aw := by
    cases s with
    | nil => exact absurd rfl hs
    | cons a r =>
      exact ptG_com (p := aw a) (r := r.map aw) (ds := []) fun x hx => by
        obtain ⟨b, hb, rfl⟩ := List.mem_map.mp (show x ∈ (a :: r).map aw from hx)
        exact hcm b hb
  rw [hpt] at hR
  have hrl : rs.length = s.length := by rw [hR.1, List.length_map]
  rw [i_lst hp]
  intro v hv
  have npv : p ≠ v := by rintro rfl; rw [hp] at hv; cases hv
  refine lc_map (fun i y => ∃ a, s[i]? = some a ∧ y = waD a) (by rw [List.length_map]; omega) (fun acc => by rw [i_lst (show (S1.put v (.lst acc)) p = some (.lst (rs.map .ref)) from by rw [Sto.put_ne npv]; exact hp)]) (fun i d acc e K hK => ?_) (fun ys hl hy => ?_)
  · rw [List.getElem?_map] at e
    obtain ⟨r, er, rfl⟩ := Option.map_eq_some_iff.mp e
    have hi := (List.getElem?_eq_some_iff.mp er).1
    have ea : s[i]? = some (s[i]'(by omega)) := List.getElem?_eq_getElem _
    generalize s[i]'(by omega) = a at ea
    have hr := hR.2 i r (aw a) er (by rw [List.getElem?_map, ea]; rfl)
    simp only [wipeD, List.set, slot_s, slot_0, tp_tup, tp_key, tp_kt]
    exact ain_ok hN g1 g2 g3 g4 gS hT hD hTi hA (ha a (List.mem_of_getElem? ea)) (k := k) (by rw [Sto.put_ne (by rintro rfl; rw [hr] at hv; cases hv)]; exact hr) (hK _ _ ⟨a, ea, rfl⟩ (Abs.refl _))
  · have ey : ys = s.map waD := eq_map (by rw [hl, List.length_map, hrl]) hy
    subst ey
    refine mem_nonT (fun d hd => ?_) Sto.put_same ⟨fun z => (by cases z), fun _ => ?_⟩
    · obtain ⟨a, h1, rfl⟩ := List.mem_map.mp hd
      exact waD_plain (ha a h1)
    rw [f_tupl Sto.put_same]
    exact fin_rt ((Abs.of sb).trans (Abs.put hv)) h
theorem cin_ok (hTi : P.fn "terms_in" = some ⟨.pl, 1, 4, F_terms_in⟩) (hA : P.fn "atom_in" = some ⟨.pl, 1, 2, F_atom_in⟩) (hPt : P.fn "parted_at" = some ⟨.pl, 2, 4, F_parted_at⟩) (hAs : P.fn "atoms_in" = some ⟨.pl, 1, 3, F_atoms_in⟩) (hP : P.fn "claim_in" = some ⟨.pl, 1, 4, F_claim_in⟩) {as bs : List (Str × List D)} (l1 : as.length ≤ 9) (l0 : 1 ≤ bs.length) (l2 : bs.length ≤ 9) (ha : ∀ a ∈ as ++ bs, WAt a) {k : Nat} {S : Sto} {Q : QE} (h : Q (.tup [.tup (as.map waD), .tup (bs.map waD)]) S) : wpCall P (k + 13) .pl "claim_in" [.str (txC as bs)] S Q xN := by
  have h1 : ∀ a ∈ as, WAt a := fun a h => ha a (List.mem_append_left _ h)
  have h2 : ∀ a ∈ bs, WAt a := fun a h => ha a (List.mem_append_right _ h)
  have s1 := sdW_len h1
  have s2 := sdW_len h2
  have hb : bs ≠ [] := fun z => by rw [z] at l0; exact absurd l0 (by decide)
  have hwd : ∀ w ∈ clW as bs, Wd w ∨ w = cmW ∨ w = arW := fun w hw => by
    rcases List.mem_append.mp hw with hw | hw
    · rcases sdW_wd h1 w hw with h | h
      · exact .inl h
      · exact .inr (.inl h)
    · rcases List.mem_cons.mp hw with hw | hw
      · exact .inr (.inr hw)
      · rcases sdW_wd h2 w hw with h | h
        · exact .inl h
        · exact .inr (.inl h)
  have hcl : (clW as bs).length ≤ 47 * 9 + 1 + 47 * 9 := by
    show (sdW as ++ arW :: sdW bs).length ≤ _
    rw [List.length_append, List.length_cons]; omega
  have hsp : Txt.split (txC as bs) spW = clW as bs := split_jn (fun z => absurd (List.append_eq_nil_iff.mp z).2 (List.cons_ne_nil _ _)) fun w hw => by
    rcases hwd w hw with h | rfl | rfl
    · exact h.sp
    · decide +kernel
    · decide +kernel
  have htl : (txC as bs).length ≤ 10000 := by
    have := jn_len (y := spW) (B := 8) (ws := clW as bs) fun w hw => by
      rcases hwd w hw with h | rfl | rfl
      · exact h.len
      · decide
      · decide
    rw [show spW.length = 1 from by decide] at this
    show (Txt.join spW (clW as bs)).length ≤ _
    omega
  have nar : ∀ s : List (Str × List D), (∀ a ∈ s, WAt a) → arW ∉ sdW s := fun s hs z => by
    rcases sdW_wd hs _ z with h | h
    · exact Wd.ne h (y := arW) (by decide +kernel) (by decide +kernel) (by decide +kernel) rfl
    · revert h; decide +kernel
  have hpt : ptG arW (clW as bs) [] [] = [sdW as, sdW bs] := ptG_two (nar as h1) (nar bs h2)
  refine call_c' (k := k + 12) hP [some (.str (txC as bs)), none, none, none] rfl rfl ?_
  simp only [F_claim_in, wpSs, wpS, wpE, wpEs, wpO, wpT, wpTs, wpB, wpCs, wpG, wpGs, wpI, wpJ, tgsLen, slot_0, slot_s, set_0, set_s, tp_tup, tp_key, tp_kt, Int.reduceLT, Int.reducePow, Int.reduceNeg, Int.reduceLE, b_add, b_sub, b_mulL, b_mulR, b_modP, b_fdivP, g_add, g_sub, c_lt, c_le, c_gt, c_ge, c_eqi, c_nei, c_eqs, c_nes, c_eqb, c_neb, c_isN, c_isnN, f_max2, f_min2, f_intb, f_int, t_bl, decide_eq_true_eq, decide_eq_false_iff_not, Bool.not_eq_true', Bool.not_eq_false', newL, ctx, int_a, hasF_t hPt, hasF_t hAs, true_and]
  refine ⟨bb_s rfl, ?_⟩
  refine ⟨by decide, by rw [sizeLine_eq]; omega, ?_⟩
  rw [show Str.ofString " " = spW from rfl, hsp]
  intro c hc
  refine ptd_ok hPt (k := k + 11) Sto.put_same (by omega) fun S1 p rs sb hp hR => ?_
  rw [hpt] at hR
  obtain ⟨r1, r2, rfl⟩ : ∃ r1 r2, rs = [r1, r2] := by
    have := hR.1
    match rs, this with
    | [r1, r2], _ => exact ⟨r1, r2, rfl⟩
  have e1 := hR.2 0 r1 (sdW as) rfl rfl
  have e2 := hR.2 1 r2 (sdW bs) rfl rfl
  rw [f_lenl hp]
  simp only [Int.reduceLT, Int.reducePow, Int.reduceNeg, Int.reduceLE, b_add, b_sub, b_mulL, b_mulR, b_modP, b_fdivP, g_add, g_sub, c_lt, c_le, c_gt, c_ge, c_eqi, c_nei, c_eqs, c_nes, c_eqb, c_neb, c_isN, c_isnN, f_max2, f_min2, f_intb, f_int, t_bl, decide_eq_true_eq, decide_eq_false_iff_not, Bool.not_eq_true', Bool.not_eq_false']
  have x0 : ∀ {S' : Sto} {Q : QE}, S' p = some (.lst ([r1, r2].map .ref)) → ixM (.ref p) (.int 0) S' Q = Q (.ref r1) S' := fun h => x_lst h (atI_n (n := 0) rfl)
  have x1 : ∀ {S' : Sto} {Q : QE}, S' p = some (.lst ([r1, r2].map .ref)) → ixM (.ref p) (.int 1) S' Q = Q (.ref r2) S' := fun h => x_lst h (atI_n (n := 1) rfl)
  refine ⟨fun z => absurd rfl z, fun _ => ?_⟩
  rw [x1 hp]
  refine asin_ok hN g1 g2 g3 g4 gS hT hD hTi hA hPt hAs hb l2 h2 (k := k) e2 ⟨rfl, ?_⟩
  rw [x0 hp]
  intro v hv
  have abv : Abs S (S1.put v (.lst [])) := (Abs.put hc).trans ((Abs.of sb).trans (Abs.put hv))
  have npv : p ≠ v := by rintro rfl; rw [hp] at hv; cases hv
  have nr1 : r1 ≠ v := by rintro rfl; rw [e1] at hv; cases hv
  have hpl : ∀ ws : List Str, plainDs (ws.map D.str) = true := fun ws => plainDs_iff.mpr fun d hd => by
    obtain ⟨w, _, rfl⟩ := List.mem_map.mp hd; rfl
  rw [ne_nil (ds := (sdW as).map .str) (by rw [Sto.put_ne nr1]; exact e1) Sto.put_same (hpl _)]
  cases as with
  | nil =>
    refine ⟨fun z => (by cases z), fun _ => ⟨fun _ => ⟨fun z => (by cases z), fun _ => fin_rt abv h⟩, fun z => (by cases z)⟩⟩
  | cons a as =>
    have hne := sdW_ne (List.cons_ne_nil a as)
    refine ⟨fun _ => ?_, fun z => ?_⟩
    · rw [x0 (by rw [Sto.put_ne npv]; exact hp)]
      refine asin_ok hN g1 g2 g3 g4 gS hT hD hTi hA hPt hAs (List.cons_ne_nil a as) l1 h1 (k := k) (by rw [Sto.put_ne nr1]; exact e1) ?_
      exact ⟨fun _ => ⟨fun z => (by cases z), fun _ => fin_rt abv h⟩, fun z => (by cases z)⟩
    · cases e : sdW (a :: as) with
      | nil => exact absurd e hne
      | cons w r => rw [e] at z; cases z
theorem rterm_ok (hTi : P.fn "terms_in" = some ⟨.pl, 1, 4, F_terms_in⟩) (hP : P.fn "read_term" = some ⟨.pl, 1, 2, F_read_term⟩) {d : D} (hd : Tm WW WV 8 d) (hl : (tw d).length ≤ 1000) {k : Nat} {S : Sto} {Q : QE} (h : Q d S) : wpCall P (k + 11) .pl "read_term" [.str (txD d)] S Q xN := by
  have hsp : Txt.split (txD d) spW = tw d := split_jn (tw_ne hd) fun w hw => (tw_wd hd w hw).sp
  have htl := txD_len hd hl
  refine call_c' (k := k + 10) hP [some (.str (txD d)), none] rfl rfl ?_
  simp only [F_read_term, wpSs, wpS, wpE, wpEs, wpO, wpT, wpTs, wpB, wpCs, wpG, wpGs, wpI, wpJ, tgsLen, slot_0, slot_s, set_0, set_s, tp_tup, tp_key, tp_kt, Int.reduceLT, Int.reducePow, Int.reduceNeg, Int.reduceLE, b_add, b_sub, b_mulL, b_mulR, b_modP, b_fdivP, g_add, g_sub, c_lt, c_le, c_gt, c_ge, c_eqi, c_nei, c_eqs, c_nes, c_eqb, c_neb, c_isN, c_isnN, f_max2, f_min2, f_intb, f_int, t_bl, decide_eq_true_eq, decide_eq_false_iff_not, Bool.not_eq_true', Bool.not_eq_false', newL, ctx, int_a, hasF_t hTi, true_and]
  refine ⟨bb_s rfl, ?_⟩
  refine ⟨by decide, by rw [sizeLine_eq]; omega, ?_⟩
  rw [show Str.ofString " " = spW from rfl, hsp]
  intro c hc
  refine tin_ok hN g1 g2 g3 g4 gS hT hD hTi (k := k) (ts := [d]) (fun t ht => by cases List.mem_singleton.mp ht; exact hd) (by rw [show twS [d] = tw d ++ [] from rfl, List.append_nil]; exact Sto.put_same) (by rw [show twS [d] = tw d ++ [] from rfl, List.append_nil]; omega) ?_
  rw [f_lent]
  simp only [Int.reduceLT, Int.reducePow, Int.reduceNeg, Int.reduceLE, b_add, b_sub, b_mulL, b_mulR, b_modP, b_fdivP, g_add, g_sub, c_lt, c_le, c_gt, c_ge, c_eqi, c_nei, c_eqs, c_nes, c_eqb, c_neb, c_isN, c_isnN, f_max2, f_min2, f_intb, f_int, t_bl, decide_eq_true_eq, decide_eq_false_iff_not, Bool.not_eq_true', Bool.not_eq_false']
  refine ⟨fun _ => ⟨fun z => absurd rfl z, fun _ => ?_⟩, fun z => (by simp at z)⟩
  rw [x_t0]
  exact fin_rt (Abs.put hc) h
theorem rclaim_ok (hTi : P.fn "terms_in" = some ⟨.pl, 1, 4, F_terms_in⟩) (hA : P.fn "atom_in" = some ⟨.pl, 1, 2, F_atom_in⟩) (hPt : P.fn "parted_at" = some ⟨.pl, 2, 4, F_parted_at⟩) (hAs : P.fn "atoms_in" = some ⟨.pl, 1, 3, F_atoms_in⟩) (hC : P.fn "claim_in" = some ⟨.pl, 1, 4, F_claim_in⟩) (hP : P.fn "read_claim" = some ⟨.pl, 1, 2, F_read_claim⟩) {as bs : List (Str × List D)} (l1 : as.length ≤ 9) (l0 : 1 ≤ bs.length) (l2 : bs.length ≤ 9) (ha : ∀ a ∈ as ++ bs, WAt a) {k : Nat} {S : Sto} {Q : QE} (h : Q (.tup [.tup (as.map waD), .tup (bs.map waD)]) S) : wpCall P (k + 14) .pl "read_claim" [.str (txC as bs)] S Q xN := by
  refine call_c' (k := k + 13) hP [some (.str (txC as bs)), none] rfl rfl ?_
  simp only [F_read_claim, wpSs, wpS, wpE, wpEs, wpO, wpT, wpTs, wpB, wpCs, wpG, wpGs, wpI, wpJ, tgsLen, slot_0, slot_s, set_0, set_s, tp_tup, tp_key, tp_kt, Int.reduceLT, Int.reducePow, Int.reduceNeg, Int.reduceLE, b_add, b_sub, b_mulL, b_mulR, b_modP, b_fdivP, g_add, g_sub, c_lt, c_le, c_gt, c_ge, c_eqi, c_nei, c_eqs, c_nes, c_eqb, c_neb, c_isN, c_isnN, f_max2, f_min2, f_intb, f_int, t_bl, decide_eq_true_eq, decide_eq_false_iff_not, Bool.not_eq_true', Bool.not_eq_false', newL, ctx, int_a, hasF_t hC, true_and]
  refine cin_ok hN g1 g2 g3 g4 gS hT hD hTi hA hPt hAs hC l1 l0 l2 ha (k := k) ?_
  exact ⟨fun z => (by cases z), fun _ => fin_same h⟩
end

structure WCl (as bs : List (Str × List D)) : Prop where
  l1 : as.length ≤ 9
  l0 : 1 ≤ bs.length
  l2 : bs.length ≤ 9
  at_ : ∀ a ∈ as ++ bs, WAt a
abbrev wcD (as bs : List (Str × List D)) : D := .tup [.tup (as.map waD), .tup (bs.map waD)]
theorem wtree {n : Nat} {d : D} (h : Tm WW WV n d) : Lr.tree (n + 1) d := tm_tree (fun _ _ h => h.2) h
theorem WAt.tree {a : Str × List D} (h : WAt a) : Lr.tree 7 (waD a) := by
  have hl := h.le
  refine tree_tup (n := 6) (by show 2 ≤ 1000; decide) fun d hd => ?_
  simp only [List.mem_cons, List.not_mem_nil, or_false] at hd
  rcases hd with rfl | rfl
  · exact .inl rfl
  · exact tree_tup (n := 5) (by omega) fun t ht => wtree (h.tm t ht).1
theorem WCl.tree {as bs : List (Str × List D)} (h : WCl as bs) : Lr.tree 9 (wcD as bs) := by
  have l1 := h.l1
  have l2 := h.l2
  refine tree_tup (n := 8) (by show 2 ≤ 1000; decide) fun d hd => ?_
  simp only [List.mem_cons, List.not_mem_nil, or_false] at hd
  rcases hd with rfl | rfl
  · refine tree_tup (n := 7) (by rw [List.length_map]; omega) fun t ht => ?_
    obtain ⟨a, ha, rfl⟩ := List.mem_map.mp ht
    exact (h.at_ a (List.mem_append_left _ ha)).tree
  · refine tree_tup (n := 7) (by rw [List.length_map]; omega) fun t ht => ?_
    obtain ⟨a, ha, rfl⟩ := List.mem_map.mp ht
    exact (h.at_ a (List.mem_append_right _ ha)).tree
section
variable {P : Prog} (hN : P.fn "is_name" = some ⟨.pl, 1, 2, F_is_name⟩) (g1 : P.gl "LONGEST_NAME" = some (.int 8)) (g2 : P.gl "KEPT_WORDS" = some (.kt keptD)) (g3 : P.gl "LETTERS" = some (.str letL)) (g4 : P.gl "MOST_DEEP" = some (.int 30)) (gS : P.gl "str" = some (.ty "str"))
  (hT : P.fn "term_at" = some ⟨.pl, 2, 5, F_term_at⟩) (hD : P.fn "deep" = some ⟨.pl, 1, 2, F_deep⟩)
include hN g1 g2 g3 g4 gS hT hD
theorem right_ok (gB : P.gl "bool" = some (.ty "bool")) (gT : P.gl "tuple" = some (.ty "tuple")) (gL : P.gl "list" = some (.ty "list")) (gD : P.gl "dict" = some (.ty "dict")) (fA : P.fn "_law_alike" = some ⟨.pl, 2, 4, F__law_alike⟩)
    (hTi : P.fn "terms_in" = some ⟨.pl, 1, 4, F_terms_in⟩) (hA : P.fn "atom_in" = some ⟨.pl, 1, 2, F_atom_in⟩) (hPt : P.fn "parted_at" = some ⟨.pl, 2, 4, F_parted_at⟩) (hAs : P.fn "atoms_in" = some ⟨.pl, 1, 3, F_atoms_in⟩) (hC : P.fn "claim_in" = some ⟨.pl, 1, 4, F_claim_in⟩) (hRc : P.fn "read_claim" = some ⟨.pl, 1, 2, F_read_claim⟩) (hRt : P.fn "read_term" = some ⟨.pl, 1, 2, F_read_term⟩)
    (hTT : P.fn "term_text" = some ⟨.pl, 1, 2, F_term_text⟩) (hAT : P.fn "atom_text" = some ⟨.pl, 1, 2, F_atom_text⟩) (hCT : P.fn "claim_text" = some ⟨.pl, 1, 4, F_claim_text⟩)
    (hTW : P.fn "_law_term_words" = some ⟨.pl, 1, 3, F__law_term_words⟩) (hAW : P.fn "_law_atom_words" = some ⟨.pl, 1, 3, F__law_atom_words⟩) (hCW : P.fn "_law_claim_words" = some ⟨.pl, 1, 5, F__law_claim_words⟩)
    (hP : P.fn "_law_right" = some ⟨.pl, 2, 3, F__law_right⟩) {d : D} (hd : Tm WW WV 8 d) (hl : (tw d).length ≤ 60) {as bs : List (Str × List D)} (hc : WCl as bs) {k : Nat} {S : Sto} {Q : QE} (h : Q (.bl true) S) : wpCall P (k + 15) .pl "_law_right" [d, wcD as bs] S Q xN := by
  refine call_c' (k := k + 14) hP [some d, some (wcD as bs), none] rfl rfl ?_
  simp only [F__law_right, wpSs, wpS, wpE, wpEs, wpO, wpT, wpTs, wpB, wpCs, wpG, wpGs, wpI, wpJ, tgsLen, slot_0, slot_s, set_0, set_s, tp_tup, tp_key, tp_kt, Int.reduceLT, Int.reducePow, Int.reduceNeg, Int.reduceLE, b_add, b_sub, b_mulL, b_mulR, b_modP, b_fdivP, g_add, g_sub, c_lt, c_le, c_gt, c_ge, c_eqi, c_nei, c_eqs, c_nes, c_eqb, c_neb, c_isN, c_isnN, f_max2, f_min2, f_intb, f_int, t_bl, decide_eq_true_eq, decide_eq_false_iff_not, Bool.not_eq_true', Bool.not_eq_false', newL, ctx, int_a, hasF_t hTW, hasF_t fA, hasF_t hTT, hasF_t hRt, hasF_t hCW, hasF_t hCT, hasF_t hRc, true_and]
  have s1 := sum_le (B := 8) (tw d) fun w hw => (tw_wd hd w hw).len
  refine ⟨bb_s rfl, ?_⟩
  refine twords_ok gS hTW 8 hd (by omega) (k := k + 5) fun p hp => ?_
  rw [m_join (seq_lst Sto.put_same) (strs_map _)]
  refine ⟨by rw [show (Str.ofString " ").length = 1 from by decide]; omega, ?_⟩
  have ab1 : Abs S (S.put p (.lst ((tw d).map .str))) := Abs.put hp
  generalize S.put p (.lst ((tw d).map .str)) = S1 at ab1
  refine ttext_ok gS hTT 8 hd (by omega) (k := k + 5) ?_
  refine alikeB_ok gB gT gL gD gS fA 0 (k := k + 13) ⟨rfl, rfl⟩ ?_
  simp only [t_bl]
  refine ⟨fun _ => ?_, fun z => (by simp at z)⟩
  refine rterm_ok hN g1 g2 g3 g4 gS hT hD hTi hRt hd (by omega) (k := k + 3) ?_
  refine alikeB_ok gB gT gL gD gS fA 9 (k := k + 4) (tree_sm _ (wtree hd)) ?_
  simp only [t_bl]
  refine ⟨fun z => (by simp at z), fun _ => ?_⟩
  refine ⟨bb_s rfl, ?_⟩
  have c1 := sdW_len (s := as) fun a h => hc.at_ a (List.mem_append_left _ h)
  have c2 := sdW_len (s := bs) fun a h => hc.at_ a (List.mem_append_right _ h)
  have l1 := hc.l1
  have l2 := hc.l2
  have hcl : (clW as bs).length ≤ 1000 := by
    show (sdW as ++ arW :: sdW bs).length ≤ _
    rw [List.length_append, List.length_cons]; omega
  have s2 := sum_le (B := 8) (clW as bs) fun w hw => by
    rcases List.mem_append.mp hw with hw | hw
    · rcases sdW_wd (fun a h => hc.at_ a (List.mem_append_left _ h)) w hw with h | rfl
      · exact h.len
      · decide
    · rcases List.mem_cons.mp hw with rfl | hw
      · decide
      · rcases sdW_wd (fun a h => hc.at_ a (List.mem_append_right _ h)) w hw with h | rfl
        · exact h.len
        · decide
  refine cwords_ok gS hTW hAW hCW hc.l1 hc.l2 hc.at_ (k := k + 7) fun q hq => ?_
  rw [m_join (seq_lst Sto.put_same) (strs_map _)]
  refine ⟨by rw [show (Str.ofString " ").length = 1 from by decide]; omega, ?_⟩
  have ab2 : Abs S (S1.put q (.lst ((clW as bs).map .str))) := ab1.trans (Abs.put hq)
  generalize S1.put q (.lst ((clW as bs).map .str)) = S2 at ab2
  refine ctext_ok gS hTT hAT hCT hc.l1 hc.l0 hc.l2 hc.at_ (k := k + 7) ?_
  refine alikeB_ok gB gT gL gD gS fA 0 (k := k + 13) ⟨rfl, rfl⟩ ?_
  refine ⟨fun _ => ?_, fun z => (by cases z)⟩
  refine rclaim_ok hN g1 g2 g3 g4 gS hT hD hTi hA hPt hAs hC hRc hc.l1 hc.l0 hc.l2 hc.at_ (k := k) ?_
  refine alikeB_ok gB gT gL gD gS fA 9 (k := k + 4) (tree_sm _ hc.tree) ?_
  exact fin_rt ab2 h
end
theorem cut_5 {xs : List D} (h : xs.length = 9) : cutL xs none (some 5) = xs.take 5 ∧ cutL xs (some 5) none = xs.drop 5 := by
  have e1 : HT.sIx xs.length xs.length (some 5) = 5 := by rw [show (some (5 : Int)) = some ((5 : Nat) : Int) from rfl, HT.sIx_nat, h]; rfl
  have e2 : HT.sIx xs.length 0 (some 5) = 5 := by rw [show (some (5 : Int)) = some ((5 : Nat) : Int) from rfl, HT.sIx_nat, h]; rfl
  unfold cutL
  refine ⟨by rw [e1, HT.sIx_none]; rfl, ?_⟩
  rw [e2, HT.sIx_none]
  exact List.take_of_length_le (by rw [List.length_drop]; omega)
theorem law_ok : LawOk T.prog 40 := by
  intro a0 ns hn
  have gS : T.prog.gl "str" = some (.ty "str") := rfl
  have gB : T.prog.gl "bool" = some (.ty "bool") := rfl
  have gT : T.prog.gl "tuple" = some (.ty "tuple") := rfl
  have gL : T.prog.gl "list" = some (.ty "list") := rfl
  have gD : T.prog.gl "dict" = some (.ty "dict") := rfl
  have g1 : T.prog.gl "LONGEST_NAME" = some (.int 8) := rfl
  have g2 : T.prog.gl "KEPT_WORDS" = some (.kt keptD) := rfl
  have g3 : T.prog.gl "LETTERS" = some (.str letL) := rfl
  have g4 : T.prog.gl "MOST_DEEP" = some (.int 30) := rfl
  have hN : T.prog.fn "is_name" = some ⟨.pl, 1, 2, F_is_name⟩ := rfl
  have hT : T.prog.fn "term_at" = some ⟨.pl, 2, 5, F_term_at⟩ := rfl
  have hD : T.prog.fn "deep" = some ⟨.pl, 1, 2, F_deep⟩ := rfl
  have fA : T.prog.fn "_law_alike" = some ⟨.pl, 2, 4, F__law_alike⟩ := rfl
  have hTi : T.prog.fn "terms_in" = some ⟨.pl, 1, 4, F_terms_in⟩ := rfl
  have hA : T.prog.fn "atom_in" = some ⟨.pl, 1, 2, F_atom_in⟩ := rfl
  have hPt : T.prog.fn "parted_at" = some ⟨.pl, 2, 4, F_parted_at⟩ := rfl
  have hAs : T.prog.fn "atoms_in" = some ⟨.pl, 1, 3, F_atoms_in⟩ := rfl
  have hC : T.prog.fn "claim_in" = some ⟨.pl, 1, 4, F_claim_in⟩ := rfl
  have hRc : T.prog.fn "read_claim" = some ⟨.pl, 1, 2, F_read_claim⟩ := rfl
  have hRt : T.prog.fn "read_term" = some ⟨.pl, 1, 2, F_read_term⟩ := rfl
  have hTT : T.prog.fn "term_text" = some ⟨.pl, 1, 2, F_term_text⟩ := rfl
  have hAT : T.prog.fn "atom_text" = some ⟨.pl, 1, 2, F_atom_text⟩ := rfl
  have hCT : T.prog.fn "claim_text" = some ⟨.pl, 1, 4, F_claim_text⟩ := rfl
  have hTW : T.prog.fn "_law_term_words" = some ⟨.pl, 1, 3, F__law_term_words⟩ := rfl
  have hAW : T.prog.fn "_law_atom_words" = some ⟨.pl, 1, 3, F__law_atom_words⟩ := rfl
  have hCW : T.prog.fn "_law_claim_words" = some ⟨.pl, 1, 5, F__law_claim_words⟩ := rfl
  have hRi : T.prog.fn "_law_right" = some ⟨.pl, 2, 3, F__law_right⟩ := rfl
  have fT : T.prog.fn "_law_take" = some ⟨.pl, 2, 4, F__law_take⟩ := rfl
  have fB : T.prog.fn "_law_box" = some ⟨.pl, 2, 4, F__law_box⟩ := rfl
  have fWn : T.prog.fn "_law_wide_name" = some ⟨.pl, 1, 5, F__law_wide_name⟩ := rfl
  have fWs : T.prog.fn "_law_wide_names" = some ⟨.pl, 1, 3, F__law_wide_names⟩ := rfl
  have fWt : T.prog.fn "_law_wide_term" = some ⟨.pl, 4, 8, F__law_wide_term⟩ := rfl
  have fWm : T.prog.fn "_law_wide_terms" = some ⟨.pl, 3, 4, F__law_wide_terms⟩ := rfl
  have fWa : T.prog.fn "_law_wide_atom" = some ⟨.pl, 2, 2, F__law_wide_atom⟩ := rfl
  have fWc : T.prog.fn "_law_wide_claim" = some ⟨.pl, 2, 4, F__law_wide_claim⟩ := rfl
  have hM : T.prog.fn "law" = some ⟨.pl, 1, 10, F_law⟩ := rfl
  generalize T.prog = P at *
  have ha : lawS a0 ns a0 = some (.rol (ns.map .int)) := if_pos rfl
  generalize lawS a0 ns = S at *
  refine call_c' (k := 39) hM [some (.ref a0), none, none, none, none, none, none, none, none, none] rfl rfl ?_
  simp only [F_law, wpSs, wpS, wpE, wpEs, wpO, wpT, wpTs, wpB, wpCs, wpG, wpGs, wpI, wpJ, tgsLen, slot_0, slot_s, set_0, set_s, tp_tup, tp_key, tp_kt, Int.reduceLT, Int.reducePow, Int.reduceNeg, Int.reduceLE, b_add, b_sub, b_mulL, b_mulR, b_modP, b_fdivP, g_add, g_sub, c_lt, c_le, c_gt, c_ge, c_eqi, c_nei, c_eqs, c_nes, c_eqb, c_neb, c_isN, c_isnN, f_max2, f_min2, f_intb, f_int, t_bl, decide_eq_true_eq, decide_eq_false_iff_not, Bool.not_eq_true', Bool.not_eq_false', newL, ctx, int_a, true_and, hasF_t hRi]
  intro p hp
  have nap : a0 ≠ p := by walk_at "stne"
  rw [f_lenr (by walk_at "stk" : (S.put p (.lst [])) a0 = some (.rol (ns.map .int))), List.length_map]
  simp only [Int.reduceLT, Int.reducePow, Int.reduceNeg, Int.reduceLE, b_add, b_sub, b_mulL, b_mulR, b_modP, b_fdivP, g_add, g_sub, c_lt, c_le, c_gt, c_ge, c_eqi, c_nei, c_eqs, c_nes, c_eqb, c_neb, c_isN, c_isnN, f_max2, f_min2, f_intb, f_int, t_bl, decide_eq_true_eq, decide_eq_false_iff_not, Bool.not_eq_true', Bool.not_eq_false']
  refine ⟨by (repeat' split) <;> omega, by (repeat' split) <;> omega, ?_⟩
  refine for_gen (fun i σ S' => ∃ (ds : List D) (u2 u3 u4 u5 u6 u7 u8 u9 : Option D), ds.length ≤ i ∧ S' p = some (.lst ds) ∧ S' a0 = some (.rol (ns.map .int)) ∧ (∀ d ∈ ds, ∃ t as bs, d = .tup [t, wcD as bs] ∧ Tm WW WV 8 t ∧ (tw t).length ≤ 60 ∧ WCl as bs) ∧ σ = [some (.ref a0), some (.ref p), u2, u3, u4, u5, u6, u7, u8, u9]) (fun i d σ S' e hI => ⟨trivial, fun K hK => ?_⟩) (fun σ S' hI => ⟨trivial, ?_⟩) ⟨[], none, none, none, none, none, none, none, none, Nat.le_refl _, Sto.put_same, by walk_at "stk", (fun d hd => by cases hd), rfl⟩
  · obtain ⟨ds, u2, u3, u4, u5, u6, u7, u8, u9, hdl, hp', ha', hds, rfl⟩ := hI
    obtain ⟨rfl, hi⟩ := rngL_get e
    have hi5 : i < 6 := by revert hi; (repeat' split) <;> omega
    simp only [List.set, slot_s, slot_0, tp_tup, tp_key, tp_kt, F_law_b0, wpSs, wpS, wpE, wpEs, wpO, wpT, wpTs, wpB, wpCs, wpG, wpGs, wpI, wpJ, tgsLen, slot_0, slot_s, set_0, set_s, tp_tup, tp_key, tp_kt, Int.reduceLT, Int.reducePow, Int.reduceNeg, Int.reduceLE, b_add, b_sub, b_mulL, b_mulR, b_modP, b_fdivP, g_add, g_sub, c_lt, c_le, c_gt, c_ge, c_eqi, c_nei, c_eqs, c_nes, c_eqb, c_neb, c_isN, c_isnN, f_max2, f_min2, f_intb, f_int, t_bl, decide_eq_true_eq, decide_eq_false_iff_not, Bool.not_eq_true', Bool.not_eq_false', newL, ctx, int_a, true_and, hasF_t fB, hasF_t fT, hasF_t fWs, hasF_t fWt, hasF_t fWa, hasF_t fWc]
    refine box_ok (k := 38) fB ha' (by omega) fun b hb => ?_
    have nab : a0 ≠ b := by walk_at "stne"
    have npb : p ≠ b := by walk_at "stne"
    refine take_ok (k := 38) fT Sto.put_same (by decide) (by decide) fun gr gr0 gr1 => ?_
    refine wnames_ok fT fWn fWs (k := 36) Sto.put_same fun xs l hx hl => ?_
    have nbl : b ≠ l := by walk_at "stne"
    have nal : a0 ≠ l := by walk_at "stne"
    have npl : p ≠ l := by walk_at "stne"
    have hb2 : ((S'.put b .bx).put l (.lst (xs.map .str))) b = some .bx := by walk_at "stk"
    have hl2 : ((S'.put b .bx).put l (.lst (xs.map .str))) l = some (.lst (xs.map .str)) := Sto.put_same
    have hp2 : ((S'.put b .bx).put l (.lst (xs.map .str))) p = some (.lst ds) := by walk_at "stk"
    have ha2 : ((S'.put b .bx).put l (.lst (xs.map .str))) a0 = some (.rol (ns.map .int)) := by walk_at "stk"
    generalize ((S'.put b .bx).put l (.lst (xs.map .str))) = S2 at hb2 hl2 hp2 ha2
    -- the end of a turn
    have go : ∀ {as bs : List (Str × List D)} {S3 : Sto} {u6' : Option D}, WCl as bs → S3 b = some .bx → S3 l = some (.lst (xs.map .str)) → S3 p = some (.lst ds) → S3 a0 = some (.rol (ns.map .int)) → bmB Bm.append (.ref p) S3 = true ∧ wpCall P 39 .pl "_law_wide_term" [.ref b, .ref l, .int 20, .int 8] S3 (fun d S1 => bmM Bm.append (.ref p) [.tup [d, wcD as bs]] S1 fun x S1 => K [some (.ref a0), some (.ref p), some (.ref b), some (.int gr), some (.ref l), some (wcD as bs), u6', some (.int (0 + (i : Int))), u8, u9] S1) xN := fun {as bs S3 u6'} hc k1 k2 k3 k4 => by
      refine ⟨bb_l k3 rfl, wterm_ok fT fWn fWt hx 8 (k := 28) (r := 20) (by decide) (by decide) k1 k2 fun t ht htl => ?_⟩
      rw [m_app k3]
      have nap' : a0 ≠ p := by rintro rfl; rw [k4] at k3; cases k3
      refine ⟨by rw [sizeLine_eq]; omega, hK _ _ _ ⟨ds ++ [.tup [t, wcD as bs]], _, _, _, _, _, _, _, _, by rw [List.length_append]; show ds.length + 1 ≤ i + 1; omega, Sto.put_same, by rw [Sto.put_ne nap']; exact k4, fun d hd => ?_, rfl⟩ (Abs.refl _)⟩
      rcases List.mem_append.mp hd with hd | hd
      · exact hds d hd
      · cases List.mem_singleton.mp hd
        exact ⟨t, as, bs, rfl, ht, by omega, hc⟩
    refine ⟨rfl, ?_⟩
    refine wclaim_ok fT fWn fWt hx fWm fWa fWc (k := 29) hb2 hl2 fun as bs l1 l0 l2 hat => ?_
    have hc : WCl as bs := ⟨l1, l0, l2, hat⟩
    simp only [Int.reduceLT, Int.reducePow, Int.reduceNeg, Int.reduceLE, b_add, b_sub, b_mulL, b_mulR, b_modP, b_fdivP, g_add, g_sub, c_lt, c_le, c_gt, c_ge, c_eqi, c_nei, c_eqs, c_nes, c_eqb, c_neb, c_isN, c_isnN, f_max2, f_min2, f_intb, f_int, t_bl, decide_eq_true_eq, decide_eq_false_iff_not, Bool.not_eq_true', Bool.not_eq_false']
    refine ⟨fun _ => ?_, fun _ => go hc hb2 hl2 hp2 ha2⟩
    intro c hcS
    have nbc : b ≠ c := by rintro rfl; rw [hb2] at hcS; cases hcS
    have nlc : l ≠ c := by rintro rfl; rw [hl2] at hcS; cases hcS
    have npc : p ≠ c := by rintro rfl; rw [hp2] at hcS; cases hcS
    have nac : a0 ≠ c := by rintro rfl; rw [ha2] at hcS; cases hcS
    refine lc_map (fun _ y => ∃ a, WAt a ∧ y = waD a) (by rw [rngL_len]; omega) (fun _ => trivial) (fun j d acc e2 K2 hK2 => ?_) (fun ys hyl hy => ?_)
    · simp only [wipeD, List.set, slot_0, slot_s, tp_tup, tp_key, tp_kt]
      exact watom_ok fT fWn fWt hx fWm fWa (k := 30) (by rw [Sto.put_ne nbc]; exact hb2) (by rw [Sto.put_ne nlc]; exact hl2) fun a ha => hK2 _ _ ⟨a, ha, rfl⟩ (Abs.refl _)
    rw [rngL_len] at hyl
    obtain ⟨cs, rfl, hcs⟩ := maps_of hy
    rw [List.length_map] at hyl
    obtain ⟨cu1, cu2⟩ := cut_5 (xs := cs.map waD) (by rw [List.length_map]; omega)
    rw [s_lst Sto.put_same]
    intro v hv
    have nbv : b ≠ v := by walk_at "stne"
    have ncv : c ≠ v := by walk_at "stne"
    have nlv : l ≠ v := by rintro rfl; rw [Sto.put_ne nlc, hl2] at hv; cases hv
    have npv : p ≠ v := by rintro rfl; rw [Sto.put_ne npc, hp2] at hv; cases hv
    have nav : a0 ≠ v := by rintro rfl; rw [Sto.put_ne nac, ha2] at hv; cases hv
    rw [f_tupl Sto.put_same, s_lst (by rw [Sto.put_ne ncv]; exact Sto.put_same)]
    intro w hw
    have nbw : b ≠ w := by rintro rfl; rw [Sto.put_ne nbv, Sto.put_ne nbc, hb2] at hw; cases hw
    have nlw : l ≠ w := by rintro rfl; rw [Sto.put_ne nlv, Sto.put_ne nlc, hl2] at hw; cases hw
    have npw : p ≠ w := by rintro rfl; rw [Sto.put_ne npv, Sto.put_ne npc, hp2] at hw; cases hw
    have naw : a0 ≠ w := by rintro rfl; rw [Sto.put_ne nav, Sto.put_ne nac, ha2] at hw; cases hw
    rw [f_tupl Sto.put_same, cu1, cu2, ← List.map_take, ← List.map_drop]
    refine go (as := cs.take 5) (bs := cs.drop 5) ⟨by rw [List.length_take]; omega, by rw [List.length_drop]; omega, by rw [List.length_drop]; omega, fun a ha => hcs a ?_⟩ ?_ ?_ ?_ ?_
    · rcases List.mem_append.mp ha with ha | ha
      · exact List.mem_of_mem_take ha
      · exact List.mem_of_mem_drop ha
    · rw [Sto.put_ne nbw, Sto.put_ne nbv, Sto.put_ne nbc]; exact hb2
    · rw [Sto.put_ne nlw, Sto.put_ne nlv, Sto.put_ne nlc]; exact hl2
    · rw [Sto.put_ne npw, Sto.put_ne npv, Sto.put_ne npc]; exact hp2
    · rw [Sto.put_ne naw, Sto.put_ne nav, Sto.put_ne nac]; exact ha2
  · obtain ⟨ds, u2, u3, u4, u5, u6, u7, u8, u9, hdl, hp', ha', hds, rfl⟩ := hI
    have hdl6 : ds.length ≤ 6 := by
      refine Nat.le_trans hdl ?_
      rw [rngL_len]; (repeat' split) <;> omega
    simp only [slot_s, slot_0, tp_tup, tp_key, tp_kt]
    refine tail_all hp' (by omega) (fun d hd S2 hS2 K' hK' => ?_) (fun S2 _ => fin_same rfl)
    obtain ⟨t, as, bs, rfl, h1, h2, h3⟩ := hds d hd
    exact ⟨by trivial, by trivial, right_ok hN g1 g2 g3 g4 gS hT hD gB gT gL gD fA hTi hA hPt hAs hC hRc hRt hTT hAT hCT hTW hAW hCW hRi h1 h2 h3 (k := 24) (hK' _ (Abs.refl _))⟩

set_option maxHeartbeats 0
abbrev R : PySem.W.OpenRow := PySem.W.OpenLaw.row PySem.Challenge.rw_leanround_k57_terms_and_claims_as_texts
theorem run (w : World) : HandSHeadRun.RunEq R (PySem.W.view R.prog [38]) (hookL 5 T) (obL 5 T) 9000 [Str.ofString "LeanError", Str.ofString "BadText", Str.ofString "LETTERS", Str.ofString "KEPT_WORDS", Str.ofString "LONGEST_NAME", Str.ofString "is_name", Str.ofString "deep", Str.ofString "MOST_DEEP", Str.ofString "term_at", Str.ofString "terms_in", Str.ofString "atom_in", Str.ofString "parted_at", Str.ofString "atoms_in", Str.ofString "claim_in", Str.ofString "read_term", Str.ofString "read_claim", Str.ofString "term_text", Str.ofString "atom_text", Str.ofString "claim_text", Str.ofString "_law_box", Str.ofString "_law_take", Str.ofString "_law_alike", Str.ofString "_law_term_words", Str.ofString "_law_atom_words", Str.ofString "_law_claim_words", Str.ofString "_law_wide_name", Str.ofString "_law_wide_names", Str.ofString "_law_wide_number", Str.ofString "_law_wide_term", Str.ofString "_law_wide_terms", Str.ofString "_law_wide_atom", Str.ofString "_law_wide_claim", Str.ofString "_law_right"] w := by
  intro os
  kernel_rfl
end Lr.K57
open PySem PySem.W PySem.Calls PyProof.Rows
theorem PySem.Challenge.cw_leanround_k57_terms_and_claims_as_texts_holds : PySem.Challenge.rw_leanround_k57_terms_and_claims_as_texts.Holds := by
  w_on; o_law
  refine HandSHeadRun.head_any (r := OpenLaw.row PySem.Challenge.rw_leanround_k57_terms_and_claims_as_texts) (q := view (OpenLaw.row PySem.Challenge.rw_leanround_k57_terms_and_claims_as_texts).prog [38]) (H := Lr.hookL 5 Lr.K57.T) (ob := Lr.obL 5 Lr.K57.T) (M := 9000) (loose := [Str.ofString "LeanError", Str.ofString "BadText", Str.ofString "LETTERS", Str.ofString "KEPT_WORDS", Str.ofString "LONGEST_NAME", Str.ofString "is_name", Str.ofString "deep", Str.ofString "MOST_DEEP", Str.ofString "term_at", Str.ofString "terms_in", Str.ofString "atom_in", Str.ofString "parted_at", Str.ofString "atoms_in", Str.ofString "claim_in", Str.ofString "read_term", Str.ofString "read_claim", Str.ofString "term_text", Str.ofString "atom_text", Str.ofString "claim_text", Str.ofString "_law_box", Str.ofString "_law_take", Str.ofString "_law_alike", Str.ofString "_law_term_words", Str.ofString "_law_atom_words", Str.ofString "_law_claim_words", Str.ofString "_law_wide_name", Str.ofString "_law_wide_names", Str.ofString "_law_wide_number", Str.ofString "_law_wide_term", Str.ofString "_law_wide_terms", Str.ofString "_law_wide_atom", Str.ofString "_law_wide_claim", Str.ofString "_law_right"]) (d := HandSHeadRun.topDef (OpenLaw.row PySem.Challenge.rw_leanround_k57_terms_and_claims_as_texts).prog 38) (kwd := []) (Lr.obL_eq 5 Lr.K57.T)
    (by kernel_rfl) (fun s => by kernel_rfl) Lr.K57.run (by kernel_rfl) (by kernel_rfl) (by kernel_rfl) (by rfl) (by first | assumption | decide +kernel) (by decide +kernel) ⟨rfl, rfl, rfl, rfl, rfl, by decide +kernel⟩ ?hw ?hc
  case hw => w_witness2
  case hc => exact Lr.law_walk (kk := 40) rfl (by kernel_rfl) ⟨rfl, by decide, by decide⟩ (by kernel_rfl) Lr.K57.ents Lr.K57.bds Lr.K57.bks Lr.K57.E_law (List.mem_cons_self ..) rfl rfl rfl rfl rfl Lr.K57.law_ok
