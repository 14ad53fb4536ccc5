import PyProof.Rows.All
import Wide.All
import OpenK.AllK
import Wide.FinOn
import HandS.ForMost
import HandS.ForExc
import HandS.IsInst
import HandS.CallSlots
import HandS.TryMany
import KE.SortData
import KE.DataCmp
import KE.SortCalls
import PyProof.ReprReads
import PyProof.Rows.StrFacts2
import HandS.TupAny
import HandS.Deep
import HandS.Style
import PyProof.Rows.IntBool
import PyProof.StrOps2
import PyProof.ReprRoads
import HandS.Flt
import PyProof.RulesMatch
import PyProof.ReprLen
import PyProof.StrLawsRepr
import PyProof.Rows.RegStrFacts
import PyProof.FitsInt
import PyProof.Rows.ReprOcc
import PySem.Challenge.RW_unbooked_k01_kinds_told
set_option Elab.async false
set_option linter.all false
set_option maxRecDepth 100000
set_option maxHeartbeats 4000000
namespace Rf
open PySem PySem.Spec PyProof.Rows L2

/-! ### data -/
inductive D where
  | non | bl (b : Bool) | int (i : Int) | str (x : List Nat)
  | tup (xs : List D) | lst (xs : List D) | dct (ks : List Key) (vs : List D)
  deriving Inhabited

mutual
def Rep (H : Hp) : D → V → Prop
  | .non, v => v = .non
  | .bl b, v => v = .bl b
  | .int i, v => v = .int i
  | .str x, v => v = .str ⟨x.toArray⟩ ∧ x.length ≤ sizeLine
  | .tup ds, v => ∃ a vs, v = .ref a ∧ H a = some (.tup vs) ∧ RepL H ds vs
  | .lst ds, v => ∃ a o vs, v = .ref a ∧ H a = some (.frz o (.lst vs)) ∧ RepL H ds vs
  | .dct ks ds, v => ∃ a o kvs, v = .ref a ∧ H a = some (.frz o (.dK kvs)) ∧ kvs.map (·.1) = ks ∧ RepL H ds (kvs.map (·.2))
def RepL (H : Hp) : List D → List V → Prop
  | [], vs => vs = []
  | d :: ds, vs => ∃ v r, vs = v :: r ∧ Rep H d v ∧ RepL H ds r
end

/-- what stays for ever stays -/
structure Pers (H H' : Hp) : Prop where
  tup : ∀ a xs, H a = some (.tup xs) → H' a = some (.tup xs)
  frz : ∀ a o u, H a = some (.frz o u) → H' a = some (.frz o u)
theorem Pers.refl (H : Hp) : Pers H H := ⟨fun _ _ h => h, fun _ _ _ h => h⟩
theorem Pers.trans {H H1 H2 : Hp} (a : Pers H H1) (b : Pers H1 H2) : Pers H H2 := ⟨fun c xs h => b.tup c xs (a.tup c xs h), fun c o u h => b.frz c o u (a.frz c o u h)⟩
theorem Pers.of_same {H H' : Hp} (h : Same H H') : Pers H H' := ⟨fun a _ e => h a _ e, fun a _ _ e => h a _ e⟩

mutual
theorem Rep.pers {H H' : Hp} (p : Pers H H') : ∀ (d : D) (v : V), Rep H d v → Rep H' d v
  | .non, _, h => h
  | .bl _, _, h => h
  | .int _, _, h => h
  | .str _, _, h => h
  | .tup ds, v, h => by
    simp only [Rep] at h ⊢
    obtain ⟨a, vs, e, h1, h2⟩ := h
    exact ⟨a, vs, e, p.tup _ _ h1, RepL.pers p ds vs h2⟩
  | .lst ds, v, h => by
    simp only [Rep] at h ⊢
    obtain ⟨a, o, vs, e, h1, h2⟩ := h
    exact ⟨a, o, vs, e, p.frz _ _ _ h1, RepL.pers p ds vs h2⟩
  | .dct ks ds, v, h => by
    simp only [Rep] at h ⊢
    obtain ⟨a, o, kvs, e, h1, h2, h3⟩ := h
    exact ⟨a, o, kvs, e, p.frz _ _ _ h1, h2, RepL.pers p ds _ h3⟩
theorem RepL.pers {H H' : Hp} (p : Pers H H') : ∀ (ds : List D) (vs : List V), RepL H ds vs → RepL H' ds vs
  | [], _, h => h
  | d :: ds, vs, h => by
    simp only [RepL] at h ⊢
    obtain ⟨v, r, e, h1, h2⟩ := h
    exact ⟨v, r, e, Rep.pers p d v h1, RepL.pers p ds r h2⟩
end

/-- readable now: at rest for ever, or a list (a dict) that is still open at the top -/
def Rd (H : Hp) : D → V → Prop
  | .lst ds, v => ∃ a vs, v = .ref a ∧ L2.Rd H a (.lst vs) ∧ RepL H ds vs
  | .dct ks ds, v => ∃ a kvs, v = .ref a ∧ L2.Rd H a (.dK kvs) ∧ kvs.map (·.1) = ks ∧ RepL H ds (kvs.map (·.2))
  | d, v => Rep H d v
theorem Rd.of {H : Hp} : ∀ {d : D} {v : V}, Rep H d v → Rd H d v
  | .non, _, h => h
  | .bl _, _, h => h
  | .int _, _, h => h
  | .str _, _, h => h
  | .tup _, _, h => h
  | .lst ds, v, h => by
    simp only [Rep] at h
    obtain ⟨a, o, vs, e, h1, h2⟩ := h
    exact ⟨a, vs, e, .inr ⟨o, h1⟩, h2⟩
  | .dct ks ds, v, h => by
    simp only [Rep] at h
    obtain ⟨a, o, kvs, e, h1, h2, h3⟩ := h
    exact ⟨a, kvs, e, .inr ⟨o, h1⟩, h2, h3⟩
def RdL (H : Hp) : List D → List V → Prop
  | [], vs => vs = []
  | d :: ds, vs => ∃ v r, vs = v :: r ∧ Rd H d v ∧ RdL H ds r
theorem RepL.len {H : Hp} : ∀ {ds : List D} {vs : List V}, RepL H ds vs → ds.length = vs.length
  | [], vs, h => by simp only [RepL] at h; subst h; rfl
  | d :: ds, vs, h => by
    simp only [RepL] at h
    obtain ⟨v, r, e, h1, h2⟩ := h
    subst e
    simp [RepL.len h2]
theorem RdL.len {H : Hp} : ∀ {ds : List D} {vs : List V}, RdL H ds vs → ds.length = vs.length
  | [], vs, h => by simp only [RdL] at h; subst h; rfl
  | d :: ds, vs, h => by
    simp only [RdL] at h
    obtain ⟨v, r, e, h1, h2⟩ := h
    subst e
    simp [RdL.len h2]
theorem RdL.of {H : Hp} : ∀ {ds : List D} {vs : List V}, RepL H ds vs → RdL H ds vs
  | [], vs, h => by simp only [RepL] at h; exact h
  | d :: ds, vs, h => by
    simp only [RepL] at h
    obtain ⟨v, r, e, h1, h2⟩ := h
    exact ⟨v, r, e, Rd.of h1, RdL.of h2⟩
theorem RepL.append {H : Hp} : ∀ {ds es : List D} {vs us : List V}, RepL H ds vs → RepL H es us → RepL H (ds ++ es) (vs ++ us)
  | [], es, vs, us, h, g => by simp only [RepL] at h; subst h; exact g
  | d :: ds, es, vs, us, h, g => by
    simp only [RepL, List.cons_append] at h ⊢
    obtain ⟨v, r, e, h1, h2⟩ := h
    subst e
    exact ⟨v, r ++ us, rfl, h1, RepL.append h2 g⟩
theorem RepL.get {H : Hp} : ∀ {ds : List D} {vs : List V} {i : Nat} {d : D}, RepL H ds vs → ds[i]? = some d → ∃ v, vs[i]? = some v ∧ Rep H d v
  | [], vs, i, d, h, e => by simp at e
  | d :: ds, vs, 0, x, h, e => by
    simp only [RepL] at h
    obtain ⟨v, r, q, h1, h2⟩ := h
    subst q
    simp at e; subst e
    exact ⟨v, rfl, h1⟩
  | d :: ds, vs, i + 1, x, h, e => by
    simp only [RepL] at h
    obtain ⟨v, r, q, h1, h2⟩ := h
    subst q
    obtain ⟨u, q1, q2⟩ := RepL.get h2 (by simpa using e)
    exact ⟨u, by simpa using q1, q2⟩
theorem RepL.get' {H : Hp} : ∀ {ds : List D} {vs : List V} {i : Nat} {v : V}, RepL H ds vs → vs[i]? = some v → ∃ d, ds[i]? = some d ∧ Rep H d v := fun {ds vs i v} h e => by
  have hl := h.len
  obtain ⟨hi, _⟩ := List.getElem?_eq_some_iff.mp e
  obtain ⟨u, e2, r⟩ := h.get (List.getElem?_eq_getElem (by omega : i < ds.length))
  rw [e] at e2; cases e2
  exact ⟨_, List.getElem?_eq_getElem (by omega), r⟩
theorem RepL.reverse {H : Hp} : ∀ {ds : List D} {vs : List V}, RepL H ds vs → RepL H ds.reverse vs.reverse
  | [], vs, h => by simp only [RepL] at h; subst h; simp [RepL]
  | d :: ds, vs, h => by
    simp only [RepL] at h
    obtain ⟨v, r, e, h1, h2⟩ := h
    subst e
    simp only [List.reverse_cons]
    exact RepL.append (RepL.reverse h2) (by simp only [RepL]; exact ⟨v, [], rfl, h1, rfl⟩)
theorem RepL.take {H : Hp} : ∀ {ds : List D} {vs : List V} (n : Nat), RepL H ds vs → RepL H (ds.take n) (vs.take n)
  | [], vs, n, h => by simp only [RepL] at h; subst h; simp [RepL]
  | d :: ds, vs, 0, h => by simp [RepL]
  | d :: ds, vs, n + 1, h => by
    simp only [RepL] at h
    obtain ⟨v, r, e, h1, h2⟩ := h
    subst e
    simp only [List.take_succ_cons, RepL]
    exact ⟨v, _, rfl, h1, RepL.take n h2⟩
theorem RepL.drop {H : Hp} : ∀ {ds : List D} {vs : List V} (n : Nat), RepL H ds vs → RepL H (ds.drop n) (vs.drop n)
  | [], vs, n, h => by simp only [RepL] at h; subst h; simp [RepL]
  | d :: ds, vs, 0, h => h
  | d :: ds, vs, n + 1, h => by
    simp only [RepL] at h
    obtain ⟨v, r, e, h1, h2⟩ := h
    subst e
    simpa using RepL.drop n h2

/-! ### states of the small machine -/
inductive Slot where
  | none | val (d : D) | own (xs : List D) | glb (k : Nat)
  deriving Inhabited
abbrev Gd := List (Key × D)
structure Sx where
  r : List Slot
  g : List Gd
def Slot.isOwn : Slot → Bool
  | .own _ => true
  | _ => false

/-- a global dict at a -/
def GRep (H : Hp) (kd : Gd) (a : Addr) : Prop := ∃ kvs, H a = some (.dK kvs) ∧ kvs.map (·.1) = kd.map (·.1) ∧ RepL H (kd.map (·.2)) (kvs.map (·.2))
def SlotRep (l : List Addr) (H : Hp) : Slot → Option V → Prop
  | .none, _ => True
  | .val d, x => ∃ v, x = some v ∧ Rep H d v
  | .own ds, x => ∃ a vs, x = some (.ref a) ∧ H a = some (.lst vs) ∧ RepL H ds vs
  | .glb k, x => ∃ a, x = some (.ref a) ∧ l[k]? = some a
/-- what an evaluation stands in: the shared dicts' places, the heap at the def's entry, lists that an evaluation around is filling -/
structure Fx where
  l : List Addr
  H0 : Hp
  hid : List (Addr × List D)
/-- the small state is borne by the slots and the heap -/
structure SI (F : Fx) (σ : L2.St) (st : Sx) (H : Hp) : Prop where
  slot : ∀ (i : Nat) (x : Slot), st.r[i]? = some x → ∃ y, σ[i]? = some y ∧ SlotRep F.l H x y
  one : ∀ (i j : Nat) (x y : List D) (a : Addr), st.r[i]? = some (.own x) → st.r[j]? = some (.own y) → σ[i]? = some (some (.ref a)) → σ[j]? = some (some (.ref a)) → i = j
  fresh : ∀ (i : Nat) (x : List D) (a : Addr), st.r[i]? = some (.own x) → σ[i]? = some (some (.ref a)) → F.H0 a = Option.none ∧ a ∉ F.l ∧ ∀ p ∈ F.hid, p.1 ≠ a
  keep : ∀ a o, F.H0 a = some o → a ∉ F.l → H a = some o
  glen : st.g.length = F.l.length
  glob : ∀ (k : Nat) (kd : Gd) (a : Addr), st.g[k]? = some kd → F.l[k]? = some a → GRep H kd a
  gone : ∀ (i j : Nat) (a : Addr), F.l[i]? = some a → F.l[j]? = some a → i = j
  hid : ∀ p ∈ F.hid, ∃ vs, H p.1 = some (.lst vs) ∧ RepL H p.2 vs
  hfr : ∀ p ∈ F.hid, F.H0 p.1 = Option.none ∧ p.1 ∉ F.l
end Rf

set_option Elab.async false
set_option linter.all false
set_option maxRecDepth 100000
set_option maxHeartbeats 4000000
namespace Rf
open PySem PySem.Spec PyProof.Rows L2

/-! ### the small language -/
inductive Res (α : Type) where
  | ok (a : α) (s : Sx) | exc (c : Nat) (fs : List D) (s : Sx) | bad
def Res.bind {α β : Type} : Res α → (α → Sx → Res β) → Res β
  | .ok a s, f => f a s
  | .exc c fs s, _ => .exc c fs s
  | .bad, _ => .bad
inductive Ty where
  | int | bool | str | tuple | list | dict
  deriving DecidableEq
inductive P where
  | add | sub | mul | fdiv | mod | pow | neg
  | eq | ne | lt | le | gt | ge | isin | notin | isNone | notNone
  | ix
  | len | isa (t : Ty) | int | str | repr | tuple | list | all | any | ord | min | max | sum | sorted | abs | dict
  | index | get | upper
  deriving DecidableEq
inductive Pat where
  | nm (i : Nat) | tp (ps : List Pat)
inductive ItK where
  | seq | str | rng | enum | zip | itms
  deriving DecidableEq
inductive MutK where
  | append | extend | pop | popLast
  deriving DecidableEq
/-- operations whose outcome is a bool -/
def P.fits : P → D → Bool
  | .get, .dct _ _ => true
  | .index, .lst _ => true
  | .upper, .str _ => true
  | _, _ => false
def P.bl : P → Bool
  | .eq | .ne | .lt | .le | .gt | .ge | .isin | .notin | .isNone | .notNone => true
  | _ => false
inductive E where
  | var (i : Nat) | own (i : Nat) | take (i : Nat) | gv (i : Nat)
  | kint (i : Int) | kstr (x : List Nat) | kbl (b : Bool) | knon
  | glo (x : Str) (d : D)
  | and (a b : E) | or (a b : E) | not (a : E) | ite (c a b : E)
  | prim (p : P) (es : List E)
  | chain (p q : P) (a b c : E)
  | cut (a : E) (lo hi : List E) | stp (a : E) (lo : List E) (k : Int)
  | tup (es : List E) | lst (es : List E) | dic (ks : List Key) (es : List E)
  | call (k : Nat) (es : List E)
  | mth (p : P) (a : E) (es : List E)
  | gget (i : Nat) (k : Key)
  | comp (elt : E) (pt : Pat) (it : ItK) (src : List E) (cs : List E) (ws : List Nat)
  | mutl (m : MutK) (i : Nat) (es : List E)
inductive FRes where
  | ret (d : D) (g : List Gd) | retG (kd : Gd) (g : List Gd) | exc (c : Nat) (fs : List D) (g : List Gd) | bad
abbrev Mirror := List Slot → List Gd → FRes
abbrev Tbl := Nat → Mirror

def E.isOwn : E → Option Nat
  | .own i => some i
  | _ => none
def E.isGv : E → Option Nat
  | .gv i => some i
  | _ => none

def D.isNon : D → Bool
  | .non => true
  | _ => false
def truth : D → Option Bool
  | .non => some false
  | .bl b => some b
  | .int i => some (i != 0)
  | .str x => some (!x.isEmpty)
  | .tup xs => some (!xs.isEmpty)
  | .lst xs => some (!xs.isEmpty)
  | .dct ks _ => some (!ks.isEmpty)

mutual
def toP : D → PyData
  | .non => .none
  | .bl b => .bool b
  | .int i => .int i
  | .str x => .str ⟨x.toArray⟩
  | .tup xs => .tuple (toPL xs)
  | .lst xs => .list (toPL xs)
  | .dct _ _ => .dict []
def toPL : List D → List PyData
  | [] => []
  | x :: xs => toP x :: toPL xs
end
def isTy : Ty → D → Bool
  | .int, .int _ => true
  | .int, .bl _ => true
  | .bool, .bl _ => true
  | .str, .str _ => true
  | .tuple, .tup _ => true
  | .list, .lst _ => true
  | .dict, .dct _ _ => true
  | _, _ => false
abbrev big : Nat := 16777216
/-- == of data -/
def eqD : D → D → Option Bool
  | .int i, .int j => some (decide (i = j))
  | .bl i, .bl j => some (decide (i = j))
  | .str x, .str y => some (decide (x = y))
  | .non, .non => some true
  | .non, .int _ => some false
  | .int _, .non => some false
  | .non, .bl _ => some false
  | .bl _, .non => some false
  | .non, .str _ => some false
  | .str _, .non => some false
  | .int _, .str _ => some false
  | .str _, .int _ => some false
  | .bl _, .str _ => some false
  | .str _, .bl _ => some false
  | a, b => if SeqAt.shaped (toP a) && SeqAt.shaped (toP b) then some (PyData.eqv (toP a) (toP b)) else none
def inD : D → D → Option Bool
  | d, .str y => match d with
    | .str [c] => some (decide (c ∈ y))
    | _ => none
  | d, .lst xs => if SeqAt.shaped (toP d) && SeqAt.shaped (toP (.lst xs)) then some ((toPL xs).any fun z => PyData.eqv z (toP d)) else none
  | d, .tup xs => if SeqAt.shaped (toP d) && SeqAt.shaped (toP (.tup xs)) then some ((toPL xs).any fun z => PyData.eqv z (toP d)) else none
  | _, _ => none
def ltD (f : PyData → PyData → Bool) (a b : D) : Option Bool :=
  let x := toP a
  let y := toP b
  if PySem.W.alike x y && decide (min x.depth y.depth ≤ 64) then (match a with | .non => none | _ => some (f x y)) else none
def cutL {α : Type} (xs : List α) (lo hi : Option Int) : List α := (xs.drop (HT.sIx xs.length 0 lo)).take (HT.sIx xs.length xs.length hi - HT.sIx xs.length 0 lo)
def cutD : D → Option Int → Option Int → Option D
  | .tup xs, lo, hi => some (.tup (cutL xs lo hi))
  | .lst xs, lo, hi => some (.lst (cutL xs lo hi))
  | .str x, lo, hi => some (.str (cutL x lo hi))
  | _, _, _ => none
def stpL {α : Type} (xs : List α) (lo : Option Int) (k : Int) : List α :=
  (sliceRange (sliceBounds lo none (some k) xs.length).1 (sliceBounds lo none (some k) xs.length).2.1 (sliceBounds lo none (some k) xs.length).2.2).filterMap (xs[·]?)
def stpD : D → Option Int → Int → Option D
  | .lst xs, lo, k => if k ≠ 0 ∧ (stpL xs lo k).length ≤ big then some (.lst (stpL xs lo k)) else none
  | .tup xs, lo, k => if lo = none ∧ k = -1 then some (.tup xs.reverse) else none
  | _, _, _ => none
def ixD : D → Int → Option D
  | .tup xs, i => atI xs i
  | .lst xs, i => atI xs i
  | .str x, i => (atI x i).map fun c => .str [c]
  | _, _ => none
def boolsD : List D → Option (List Bool)
  | [] => some []
  | .bl b :: r => (boolsD r).map (b :: ·)
  | _ :: _ => none
def intsD : List D → Option (List Int)
  | [] => some []
  | .int b :: r => (intsD r).map (b :: ·)
  | _ :: _ => none

def getK (kd : Gd) (k : Key) : Option D := (kd.find? fun kv => decide (kv.1 = k)).map (·.2)
def setK (kd : Gd) (k : Key) (v : D) : Gd :=
  if (kd.any fun kv => decide (kv.1 = k)) = true then kd.map (fun kv => if kv.1 = k then (kv.1, v) else kv) else kd ++ [(k, v)]
def bI (b : Bool) : Int := if b then 1 else 0
/-- repr of data -/
def reprD (d : D) : Option (List Nat) :=
  if (toP d).canLay0 && (toP d).showable && decide ((toP d).depth ≤ 30) && decide ((toP d).shown.length ≤ big) then some (toP d).shown.cps.toList else none
def alikeL (xs : List D) : Bool := xs.all fun a => xs.all fun b => PySem.W.alike (toP a) (toP b)
def isTupC : D → Bool
  | .tup (_ :: _) => true
  | _ => false
def notTupNon : D → Bool
  | .non => false
  | .tup _ => false
  | _ => true
def sortD (xs : List D) : Option (List D) :=
  if alikeL xs && (xs.all isTupC || xs.all notTupNon) && decide (xs.length ≤ big) && xs.all (fun a => (toP a).canLay0 && decide ((toP a).depth ≤ 30)) then some (xs.mergeSort (PySem.W.dataLe false toP)) else none
def keyD : D → Option Key
  | .int i => some (.inl i)
  | .str x => some (.inr ⟨x.toArray⟩)
  | _ => none
def pairsD : List D → Option Gd
  | [] => some []
  | .tup [k, v] :: r => match keyD k, pairsD r with
    | some k, some g => some ((k, v) :: g)
    | _, _ => none
  | _ :: _ => none
def mergeD (kd : Gd) (more : Gd) : Gd := more.foldl (fun acc kv => setK acc kv.1 kv.2) kd
/-- the first place of an equal one -/
def indexD (d : PyData) : List PyData → Nat → Option Nat
  | [], _ => none
  | z :: r, j => if PyData.eqv z d then some j else indexD d r (j + 1)
def min2 (i j : Int) : Int := if j < i then j else i
def max2 (i j : Int) : Int := if i < j then j else i
/-- what an operation gives -/
def P.ap : P → List D → Option D
  | .add, [.int i, .int j] => some (.int (i + j))
  | .add, [.bl b, .int j] => some (.int (bI b + j))
  | .add, [.int i, .bl b] => some (.int (i + bI b))
  | .add, [.str x, .str y] => if x.length + y.length ≤ big then some (.str (x ++ y)) else none
  | .add, [.tup x, .tup y] => if x.length + y.length ≤ big then some (.tup (x ++ y)) else none
  | .add, [.lst x, .lst y] => if x.length + y.length ≤ big then some (.lst (x ++ y)) else none
  | .sub, [.int i, .int j] => some (.int (i - j))
  | .sub, [.bl b, .int j] => some (.int (bI b - j))
  | .sub, [.int i, .bl b] => some (.int (i - bI b))
  | .mul, [.int i, .int j] => if i.natAbs < 2 ^ 64 ∨ j.natAbs < 2 ^ 64 then some (.int (i * j)) else none
  | .mul, [.str x, .int n] => if n.natAbs < big ∧ x.length * n.toNat ≤ big then some (.str (List.replicate n.toNat x).flatten) else none
  | .mul, [.lst x, .int n] => if n.natAbs < big ∧ x.length * n.toNat ≤ big then some (.lst (List.replicate n.toNat x).flatten) else none
  | .fdiv, [.int i, .int j] => if j ≠ 0 ∧ j.natAbs < 1073741824 then some (.int (i.fdiv j)) else none
  | .mod, [.int i, .int j] => if j ≠ 0 then some (.int (i.fmod j)) else none
  | .pow, [.int i, .int j] => if 0 ≤ j ∧ j ≤ 1000000 ∧ i.natAbs < 2 ^ 64 then some (.int (i ^ j.toNat)) else none
  | .neg, [.int i] => some (.int (-i))
  | .eq, [a, b] => (eqD a b).map .bl
  | .ne, [a, b] => (eqD a b).map fun c => .bl (!c)
  | .lt, [.int i, .int j] => some (.bl (decide (i < j)))
  | .le, [.int i, .int j] => some (.bl (decide (i ≤ j)))
  | .gt, [.int i, .int j] => some (.bl (decide (j < i)))
  | .ge, [.int i, .int j] => some (.bl (decide (j ≤ i)))
  | .isin, [a, b] => (inD a b).map .bl
  | .notin, [a, b] => (inD a b).map fun c => .bl (!c)
  | .isNone, [a] => some (.bl a.isNon)
  | .notNone, [a] => some (.bl (!a.isNon))
  | .ix, [.dct ks vs, k] => match keyD k with
    | some k => getK (ks.zip vs) k
    | none => none
  | .ix, [a, .int i] => ixD a i
  | .len, [.tup xs] => some (.int xs.length)
  | .len, [.lst xs] => some (.int xs.length)
  | .len, [.str x] => some (.int x.length)
  | .len, [.dct ks _] => some (.int ks.length)
  | .isa t, [a] => some (.bl (isTy t a))
  | .int, [.int i] => some (.int i)
  | .int, [.bl b] => some (.int (if b then 1 else 0))
  | .tuple, [.lst xs] => some (.tup xs)
  | .tuple, [.tup xs] => some (.tup xs)
  | .list, [.lst xs] => some (.lst xs)
  | .list, [.tup xs] => some (.lst xs)
  | .ord, [.str x] => match x with
    | [c] => some (.int c)
    | _ => none
  | .all, [.lst xs] => (boolsD xs).map fun bs => .bl (bs.all id)
  | .any, [.lst xs] => (boolsD xs).map fun bs => .bl (bs.any id)
  | .repr, [d] => (reprD d).map .str
  | .str, [.int i] => if i.natAbs.log2 < 1920 then some (.str (Str.ofString (toString i)).cps.toList) else none
  | .str, [.bl b] => some (.str (if b then [84, 114, 117, 101] else [70, 97, 108, 115, 101]))
  | .str, [.str x] => some (.str x)
  | .sorted, [.lst xs] => (sortD xs).map .lst
  | .min, [.int i, .int j] => some (.int (min2 i j))
  | .min, [.int i, .int j, .int k] => some (.int (min2 (min2 i j) k))
  | .max, [.int i, .int j] => some (.int (max2 i j))
  | .max, [.int i, .int j, .int k] => some (.int (max2 (max2 i j) k))
  | .abs, [.int i] => some (.int (if i < 0 then -i else i))
  | .dict, [.lst xs] => if xs.length ≤ big then (pairsD xs).map fun g => .dct ((mergeD [] g).map (·.1)) ((mergeD [] g).map (·.2)) else none
  | .get, [.dct ks vs, k, d] => (keyD k).map fun k => (getK (ks.zip vs) k).getD d
  | .get, [.dct ks vs, k] => (keyD k).map fun k => (getK (ks.zip vs) k).getD .non
  | .index, [.lst xs, d] => if SeqAt.shaped (toP (.lst xs)) && SeqAt.shaped (toP d) then (indexD (toP d) (toPL xs) 0).map fun (j : Nat) => D.int (j : Int) else none
  | .upper, [.str x] => if x.length ≤ 5592405 then some (.str (Txt.upper ⟨x.toArray⟩).cps.toList) else none
  | _, _ => none

mutual
def bindP : Pat → D → List Slot → Option (List Slot)
  | .nm i, d, r => if i < r.length then some (r.set i (.val d)) else none
  | .tp ps, .tup ds, r => bindPs ps ds r
  | .tp _, _, _ => none
def bindPs : List Pat → List D → List Slot → Option (List Slot)
  | [], [], r => some r
  | p :: ps, d :: ds, r => (bindP p d r).bind fun r1 => bindPs ps ds r1
  | _, _, _ => none
end
def wipeR (r : List Slot) : List Nat → List Slot
  | [] => r
  | v :: vs => (wipeR r vs).set v .none
/-- the names of a comprehension stand again as they stood ahead of it (where they held data) -/
def backR (r0 : List Slot) : List Nat → List Slot → List Slot
  | [], r => r
  | v :: vs, r => (backR r0 vs r).set v (match r0[v]? with | some (.val d) => .val d | some (.glb k) => .glb k | _ => .none)
def compL (b : D → List Slot → Option (List Slot)) (c : Sx → Res Bool) (e : Sx → Res D) (ws : List Nat) : List D → Sx → Res (List D)
  | [], st => .ok [] st
  | x :: xs, st => match b x (wipeR st.r ws) with
    | none => .bad
    | some r1 => (c ⟨r1, st.g⟩).bind fun t s2 => if t then (e s2).bind fun d s3 => (compL b c e ws xs s3).bind fun r s4 => .ok (d :: r) s4 else compL b c e ws xs s2
def rangeD (lo : Int) : Nat → List D
  | 0 => []
  | n + 1 => .int lo :: rangeD (lo + 1) n
def ItK.get : ItK → List D → Option (List D)
  | .seq, [.tup xs] => some xs
  | .seq, [.lst xs] => some xs
  | .str, [.str x] => some (x.map fun c => .str [c])
  | .rng, [.int j] => if -(2 ^ 62) ≤ j ∧ j < 2 ^ 62 then some (rangeD 0 j.toNat) else none
  | .rng, [.int i, .int j] => if -(2 ^ 62) ≤ i ∧ i < 2 ^ 62 ∧ -(2 ^ 62) ≤ j ∧ j < 2 ^ 62 then some (rangeD i (j - i).toNat) else none
  | _, _ => none
def MutK.ap : MutK → List D → List D → Option (D × List D)
  | .append, xs, [d] => if xs.length < big then some (.non, xs ++ [d]) else none
  | .extend, xs, [.lst ys] => if xs.length + ys.length ≤ big then some (.non, xs ++ ys) else none
  | .pop, xs, [.int i] => match ixN xs.length i with
    | some k => (xs[k]?).map fun y => (y, xs.eraseIdx k)
    | none => none
  | .popLast, xs, [] => (xs[xs.length - 1]?).map fun y => (y, xs.dropLast)
  | _, _, _ => none
def ofOpt (o : Option D) (st : Sx) : Res D := match o with
  | some d => .ok d st
  | none => .bad

mutual
def ev (T : Tbl) : E → Sx → Res D
  | .var i, st => match st.r[i]? with
    | some (.val d) => .ok d st
    | _ => .bad
  | .own _, _ => .bad
  | .gv _, _ => .bad
  | .take i, st => match st.r[i]? with
    | some (.own xs) => .ok (.lst xs) ⟨st.r.set i .none, st.g⟩
    | _ => .bad
  | .kint i, st => .ok (.int i) st
  | .kstr x, st => .ok (.str x) st
  | .kbl b, st => .ok (.bl b) st
  | .knon, st => .ok .non st
  | .glo _ d, st => .ok d st
  | .and a b, st => (ev T a st).bind fun d s1 => match d with
    | .bl true => ev T b s1
    | .bl false => .ok (.bl false) s1
    | _ => .bad
  | .or a b, st => (ev T a st).bind fun d s1 => match d with
    | .bl true => .ok (.bl true) s1
    | .bl false => ev T b s1
    | _ => .bad
  | .not a, st => (ev T a st).bind fun d s1 => match truth d with
    | some b => .ok (.bl (!b)) s1
    | none => .bad
  | .ite c a b, st => (ev T c st).bind fun d s1 => match truth d with
    | some true => ev T a s1
    | some false => ev T b s1
    | none => .bad
  | .prim p es, st => (evs T es st).bind fun ds s1 => ofOpt (p.ap ds) s1
  | .chain p q a b c, st => (ev T a st).bind fun x s1 => (ev T b s1).bind fun y s2 => match p.ap [x, y] with
    | some (.bl true) => (ev T c s2).bind fun z s3 => ofOpt (q.ap [y, z]) s3
    | some (.bl false) => .ok (.bl false) s2
    | _ => .bad
  | .cut a lo hi, st => match a.isOwn with
    | some i => match st.r[i]? with
      | some (.own _) => (evp T lo st).bind fun l s1 => (evp T hi s1).bind fun h s2 => match s2.r[i]? with
        | some (.own xs) => ofOpt (cutD (.lst xs) l h) s2
        | _ => .bad
      | _ => .bad
    | none => (ev T a st).bind fun d s0 => (evp T lo s0).bind fun l s1 => (evp T hi s1).bind fun h s2 => ofOpt (cutD d l h) s2
  | .stp a lo k, st => match a.isOwn with
    | some i => match st.r[i]? with
      | some (.own _) => (evp T lo st).bind fun l s1 => match s1.r[i]? with
        | some (.own xs) => ofOpt (stpD (.lst xs) l k) s1
        | _ => .bad
      | _ => .bad
    | none => (ev T a st).bind fun d s0 => (evp T lo s0).bind fun l s1 => ofOpt (stpD d l k) s1
  | .tup es, st => (evs T es st).bind fun ds s1 => if ds.length ≤ big then .ok (.tup ds) s1 else .bad
  | .lst es, st => (evs T es st).bind fun ds s1 => if ds.length ≤ big then .ok (.lst ds) s1 else .bad
  | .dic ks es, st => (evs T es st).bind fun ds s1 => if ks.length = ds.length ∧ ks.length ≤ 15 ∧ ks.Nodup then .ok (.dct ks ds) s1 else .bad
  | .call k es, st => (evc T es st).bind fun xs s1 => match T k xs s1.g with
    | .ret d g => .ok d ⟨s1.r, g⟩
    | .exc c fs g => .exc c fs ⟨s1.r, g⟩
    | _ => .bad
  | .mth p a es, st => (ev T a st).bind fun d s0 => if p.fits d then (evs T es s0).bind fun ds s1 => ofOpt (p.ap (d :: ds)) s1 else .bad
  | .gget i k, st => match st.r[i]? with
    | some (.glb j) => match st.g[j]? with
      | some kd => ofOpt (getK kd k) st
      | none => .bad
    | _ => .bad
  | .comp elt pt it src cs ws, st => (evs T src st).bind fun ds s1 => match it.get ds with
    | some xs => match compL (bindP pt) (evt T cs) (ev T elt) ws xs s1 with
      | .ok rs s2 => if rs.length ≤ big then .ok (.lst rs) ⟨backR s1.r ws s2.r, s2.g⟩ else .bad
      | _ => .bad
    | none => .bad
  | .mutl m i es, st => match st.r[i]? with
    | some (.own _) => (evs T es st).bind fun ds s1 => match s1.r[i]? with
      | some (.own xs) => match m.ap xs ds with
        | some (d, ys) => .ok d ⟨s1.r.set i (.own ys), s1.g⟩
        | none => .bad
      | _ => .bad
    | _ => .bad
def evs (T : Tbl) : List E → Sx → Res (List D)
  | [], st => .ok [] st
  | a :: as, st => match a.isOwn with
    | some i => match st.r[i]? with
      | some (.own _) => (evs T as st).bind fun ds s1 => match s1.r[i]? with
        | some (.own xs) => .ok (.lst xs :: ds) s1
        | _ => .bad
      | _ => .bad
    | none => (ev T a st).bind fun d s1 => (evs T as s1).bind fun ds s2 => .ok (d :: ds) s2
def evp (T : Tbl) : List E → Sx → Res (Option Int)
  | [], st => .ok none st
  | a :: _, st => (ev T a st).bind fun d s1 => match d with
    | .int i => .ok (some i) s1
    | _ => .bad
def evt (T : Tbl) : List E → Sx → Res Bool
  | [], st => .ok true st
  | c :: cs, st => (ev T c st).bind fun d s1 => match truth d with
    | some true => evt T cs s1
    | some false => .ok false s1
    | none => .bad
def evc (T : Tbl) : List E → Sx → Res (List Slot)
  | [], st => .ok [] st
  | a :: as, st => match a.isGv with
    | some i => match st.r[i]? with
      | some (.glb k) => (evc T as st).bind fun ds s1 => .ok (.glb k :: ds) s1
      | _ => .bad
    | none => (ev T a st).bind fun d s1 => (evc T as s1).bind fun ds s2 => .ok (.val d :: ds) s2
end
example : ev (fun _ _ _ => .bad) (.prim .add [.kint 3, .kint 4]) ⟨[], []⟩ = .ok (.int 7) ⟨[], []⟩ := by rfl
end Rf

set_option Elab.async false
set_option linter.all false
set_option maxRecDepth 100000
set_option maxHeartbeats 4000000
namespace Rf
open PySem PySem.Spec PyProof.Rows L2

/-! ### a def's promise, where nothing is being shown (no repr runs) -/
structure FnG (Pg : Program) (w : World) (K : PySem.W.Frag) (mg : Str → Option Value) (base : Heap) (k : Nat) (f : Addr) (fd : FuncData) (ps : List Str) (sp : Sp) : Prop where
  len : ∀ vs H Q E, sp vs H Q E → vs.length = ps.length
  run : ∀ (A : Around) (outer : List Env) (s : Shared) (H : Hp) (args : Args) (us : List Value) (vs : List V) (Q : VK) (E : XK), Room k A → A.guards = some [] → Env0 Pg w K mg base A outer s H →
    BindsTo s fd args (ps.zip us) → Vals vs us → sp vs H Q E → codeAny (model Pg w) A (.call (.ref f) args) (CR (L2.CX Pg w) outer Pg w H s Q E) s

theorem Fun.okG {Pg : Program} {w : World} {K : PySem.W.Frag} {mg : Str → Option Value} {base : Heap} {x qual : Str} {st : Stmt} {f : Addr} {fd : FuncData} {N ps : List Str} {k : Nat} {sp : Sp}
    (F : Fun K x qual st f fd) (S : FnScope N ps (defScope st)) (len : ∀ vs H Q E, sp vs H Q E → vs.length = ps.length)
    (body : ∀ (cdv : Value) (A : Around) (outer : List Env) (s : Shared) (H : Hp) (vs : List V) (Q : VK) (E : XK), Room k (A.deeper (envOfC qual (defScope st) s.heap.objs.size f cdv)) → A.guards = some [] → sp vs H Q E →
      ∃ t, PSs (cxOf (L2.CX Pg w) Pg w K mg base N qual (defScope st) f cdv A outer s H E) (defBody st) t ∧ t { nx := fun _ H' => Q .non H', rt := Q } (start N vs) H) :
    FnG Pg w K mg base (k + 1) f fd ps sp := by
  obtain ⟨oc, od, kV, doc, pm, an, cdv, ct, osl, rfl, lk, code⟩ := F.ex
  refine ⟨len, ?_⟩
  intro A outer s H args us vs Q E room gd e0 bnd rv want
  have kin := e0.mod.kin.keeps (fun b o e => (e0.bs b o e).1)
  have free := e0.mod.nolimit.keeps (fun b o e => (e0.bs b o e).1)
  have kinds : ∀ y ∈ ps.zip us, (defScope st).names.lookup y.1 = some .local ∨ ((defScope st).names.lookup y.1 = some .cell ∧ ((cellsFrom (s.heap.objs.size + 1) (defScope st).names []).lookup y.1).isSome = true) := by
    rintro ⟨n, v⟩ hy
    have hn := S.par n (List.of_mem_zip hy).1
    cases hn with
    | inl q => exact Or.inl q
    | inr q => exact Or.inr ⟨q, PySem.W.cellsFrom_some _ _ _ (Or.inl q)⟩
  refine codeAny_call_function room.depth (kin _ _ lk) rfl S.co S.gen rfl (PySem.W.codeRec_of kin code) (bnd _ _ _ _ ?_)
  apply wpAny_newFunctionEnv_cells S.kind kinds
  intro fn hfn s1 x
  subst hfn
  refine ⟨free.keeps x.toInCall.keep, ?_⟩
  apply codeAny_func
  have ⟨t, ht, hq⟩ := body cdv A outer s H vs Q E (room.deeper _) gd want
  have I := inv_start (CX := L2.CX Pg w) (N := N) (E := E) S room.hd e0 (len _ _ _ _ want) rv x
  have done : ∀ {σ' : L2.St} {H' : Hp} {s' : Shared} {v : V} {u : Value}, Inv (cxOf (L2.CX Pg w) Pg w K mg base N qual (defScope st) f cdv A outer s H E) [] σ' H' s' → RelV v u → Q v H' → CE outer Pg w H s Q u s' := by
    intro σ' H' s' v u J rv q
    exact ⟨v, H', J.os, J.bare, J.base, J.hok, rv, q⟩
  apply wpAny_mono (ht.run [] s1 (start N vs) H _ I hq)
  · intro fl s' hs
    cases fl
    case ret u =>
      have ⟨v, σ', H', J, rv, q⟩ := hs
      exact done J rv q
    case next =>
      have ⟨σ', H', J, q⟩ := hs
      exact done (v := V.non) (u := Value.none) J rfl q
    case brk =>
      have ⟨_, _, _, q⟩ := hs
      exact q.elim
    case cont =>
      have ⟨_, _, _, q⟩ := hs
      exact q.elim
  · exact fun e s' hs => hs

theorem runG {X : Cx} {W : WX} {k : Nat} {f : Addr} {fd : FuncData} {ps : List Str} {sp : Sp} {pins : List (Addr × Obj)} {σ : L2.St} {H : Hp} {s : Shared} {Q : VK} {us : List Value} {vs : List V} {args : Args}
    (F : FnG X.prog X.w X.K X.mg X.base k f fd ps sp) (hr : Room k X.A) (hg : X.A.guards = some []) (tk : Takes X W) (hb : BindsTo s fd args (ps.zip us)) (I : Inv X pins σ H s) (r : Vals vs us)
    (h : sp vs H Q fun cls d H' => W cls d σ H') : wpAny (model X.prog X.w) X.A (call (.ref f) args.pos args.kw) (EP X pins σ Q) X.xe s := by
  apply wpAny_call
  apply codeAny_mono (F.run X.A X.stack s H args us vs Q _ hr hg I.env0 hb r h)
  intro res s' hq
  cases res
  case error e => exact tk e s' (XE.of_call I (fun _ _ _ z => z) hq)
  case ok fl =>
    cases fl
    case ret u => exact I.after hq
    all_goals exact False.elim hq

/-! ### what is wanted behind an evaluation -/
section
variable {T : Tbl} {XR : Hp → Nat → List D → Value → Option Addr → Prop} {W : WX} {F : Fx} {σ : L2.St}

def Post (XR : Hp → Nat → List D → Value → Option Addr → Prop) (W : WX) (F : Fx) (σ : L2.St) {α : Type} (H : Hp) (r : Res α) (R : α → Hp → Prop) : Prop :=
  match r with
  | .ok a st => ∀ H', Pers H H' → SI F σ st H' → R a H'
  | .exc c fs st => ∀ cls dd H', Pers H H' → SI F σ st H' → XR H' c fs cls dd → W cls dd σ H'
  | .bad => False
theorem Post.weak {α : Type} {H H1 : Hp} {r : Res α} {R : α → Hp → Prop} (p : Pers H H1) (h : Post XR W F σ H r R) : Post XR W F σ H1 r R := by
  cases r with
  | ok a st => exact fun H' q I => h H' (p.trans q) I
  | exc c fs st => exact fun cls dd H' q I x => h cls dd H' (p.trans q) I x
  | bad => exact h
theorem Post.mono {α : Type} {H : Hp} {r : Res α} {R R' : α → Hp → Prop} (h : Post XR W F σ H r R) (hR : ∀ a st H', r = .ok a st → Pers H H' → SI F σ st H' → R a H' → R' a H') : Post XR W F σ H r R' := by
  cases r with
  | ok a st => exact fun H' q I => hR a st H' rfl q I (h H' q I)
  | exc c fs st => exact h
  | bad => exact h
/-- one after the other: behind the first, the rest from its end -/
theorem Post.bind {α β : Type} {H : Hp} {r : Res α} {f : α → Sx → Res β} {R : β → Hp → Prop} (h : Post XR W F σ H (r.bind f) R) {R' : α → Hp → Prop}
    (k : ∀ a st H', r = .ok a st → Pers H H' → SI F σ st H' → Post XR W F σ H' (f a st) R → R' a H') : Post XR W F σ H r R' := by
  cases r with
  | ok a st => exact fun H' q I => k a st H' rfl q I (Post.weak q h)
  | exc c fs st => exact h
  | bad => exact h

/-- the reading of an expression: what ev says -/
def den (T : Tbl) (XR : Hp → Nat → List D → Value → Option Addr → Prop) (W : WX) (m : E) : TE := fun σ H Q => ∃ F st, SI F σ st H ∧ Post XR W F σ H (ev T m st) fun d H' => ∀ v, Rep H' d v → Q v H'
/-- the same as a test -/
def denT (T : Tbl) (XR : Hp → Nat → List D → Value → Option Addr → Prop) (W : WX) (m : E) : TT := fun σ H Q => ∃ F st, SI F σ st H ∧ Post XR W F σ H (ev T m st) fun d H' => ∃ b, truth d = some b ∧ Q b H'
/-- of an argument: an open list is handed on as it is -/
def tE (T : Tbl) (XR : Hp → Nat → List D → Value → Option Addr → Prop) (W : WX) (a : E) : TE := match a.isOwn with
  | some i => tVar i
  | none => den T XR W a
def tL (T : Tbl) (XR : Hp → Nat → List D → Value → Option Addr → Prop) (W : WX) : List E → TA
  | [] => fun _ H Q => Q [] H
  | a :: as => fun σ H Q => tE T XR W a σ H fun x H1 => tL T XR W as σ H1 fun xs H2 => Q (x :: xs) H2
/-- what argument values stand for -/
def RX (H : Hp) : List E → List D → List V → Prop
  | [], ds, vs => ds = [] ∧ vs = []
  | a :: as, ds, vs => ∃ d dr v vr, ds = d :: dr ∧ vs = v :: vr ∧ (match a.isOwn with | some _ => Rd H d v | none => Rep H d v) ∧ RX H as dr vr
theorem RX.rd {H : Hp} : ∀ {as : List E} {ds : List D} {vs : List V}, RX H as ds vs → RdL H ds vs
  | [], ds, vs, h => by obtain ⟨rfl, rfl⟩ := h; rfl
  | a :: as, ds, vs, h => by
    obtain ⟨d, dr, v, vr, rfl, rfl, h1, h2⟩ := h
    refine ⟨v, vr, rfl, ?_, RX.rd h2⟩
    cases e : a.isOwn with
    | none => rw [e] at h1; exact Rd.of h1
    | some i => rw [e] at h1; exact h1
theorem RX.rep {H : Hp} : ∀ {as : List E} {ds : List D} {vs : List V}, (as.all fun a => a.isOwn.isNone) = true → RX H as ds vs → RepL H ds vs
  | [], ds, vs, _, h => by obtain ⟨rfl, rfl⟩ := h; simp [RepL]
  | a :: as, ds, vs, k, h => by
    obtain ⟨d, dr, v, vr, rfl, rfl, h1, h2⟩ := h
    rw [List.all_cons, Bool.and_eq_true] at k
    simp only [RepL]
    refine ⟨v, vr, rfl, ?_, RX.rep k.2 h2⟩
    cases e : a.isOwn with
    | none => rw [e] at h1; exact h1
    | some i => rw [e] at k; simp at k
theorem SI.var {st : Sx} {H : Hp} {i : Nat} {d : D} (I : SI F σ st H) (e : st.r[i]? = some (.val d)) : ∃ v, σ[i]? = some (some v) ∧ Rep H d v := by
  obtain ⟨y, h1, h2⟩ := I.slot i _ e
  obtain ⟨v, rfl, h3⟩ := h2
  exact ⟨v, h1, h3⟩
theorem SI.own {st : Sx} {H : Hp} {i : Nat} {ds : List D} (I : SI F σ st H) (e : st.r[i]? = some (.own ds)) : ∃ a vs, σ[i]? = some (some (.ref a)) ∧ H a = some (.lst vs) ∧ RepL H ds vs := by
  obtain ⟨y, h1, h2⟩ := I.slot i _ e
  obtain ⟨a, vs, rfl, h3, h4⟩ := h2
  exact ⟨a, vs, h1, h3, h4⟩
theorem args {T : Tbl} : ∀ (as : List E) (st : Sx) (H : Hp) (Q : List V → Hp → Prop), SI F σ st H → Post XR W F σ H (evs T as st) (fun ds H' => ∀ vs, RX H' as ds vs → Q vs H') → tL T XR W as σ H Q
  | [], st, H, Q, I, h => by
    simp only [evs] at h
    exact h H (Pers.refl H) I [] ⟨rfl, rfl⟩
  | a :: as, st, H, Q, I, h => by
    show tE T XR W a σ H _
    rw [evs] at h
    unfold tE
    cases e : a.isOwn with
    | none =>
      rw [e] at h
      simp only at h ⊢
      refine ⟨F, st, I, h.bind fun d s1 H1 _ p I1 q v rv => args as s1 H1 _ I1 (q.bind fun ds s2 H2 _ p2 I2 q2 vs rvs => ?_)⟩
      refine q2 H2 (Pers.refl _) I2 (v :: vs) ⟨d, ds, v, vs, rfl, rfl, ?_, rvs⟩
      rw [e]
      exact Rep.pers p2 d v rv
    | some i =>
      rw [e] at h
      simp only at h ⊢
      split at h
      · rename_i xs ex
        obtain ⟨b, us, q1, q2, q3⟩ := I.own ex
        refine ⟨.ref b, q1, args as st H _ I (h.bind fun ds s1 H1 _ p I1 q vs rvs => ?_)⟩
        split at q
        · rename_i ys ey
          obtain ⟨b', us', g1, g2, g3⟩ := I1.own ey
          rw [q1] at g1
          cases g1
          refine q H1 (Pers.refl _) I1 (.ref b :: vs) ⟨.lst ys, ds, .ref b, vs, rfl, rfl, ?_, rvs⟩
          rw [e]
          exact ⟨b, us', rfl, .inl g2, g3⟩
        · exact False.elim q
      · exact False.elim h
end
end Rf

set_option Elab.async false
set_option linter.all false
set_option maxRecDepth 100000
set_option maxHeartbeats 4000000
namespace Rf
open PySem PySem.Spec PyProof.Rows L2

/-! ### at rest -/
/-- a result: a list (a dict) just made, open still; else at rest -/
def New (H H' : Hp) : D → V → Prop
  | .lst ds, v => ∃ a vs, v = .ref a ∧ H a = none ∧ H' a = some (.lst vs) ∧ RepL H' ds vs
  | .dct ks ds, v => ∃ a kvs, v = .ref a ∧ H a = none ∧ H' a = some (.dK kvs) ∧ kvs.map (·.1) = ks ∧ RepL H' ds (kvs.map (·.2))
  | d, v => Rep H' d v
theorem frozen {X : Cx} {pins : List (Addr × Obj)} {σ : L2.St} {H H' : Hp} {s : Shared} {d : D} {v : V} (I : Inv X pins σ H' s) (n : New H H' d v) (e : Same H H') : ∃ H2, Inv X pins σ H2 s ∧ Rep H2 d v ∧ Same H H2 := by
  have go : ∀ {a : Addr} {u : HO}, H a = none → H' a = some u → Mut (some u) → ∃ od, Inv X pins σ (upd H' a (.frz od u)) s ∧ Same H (upd H' a (.frz od u)) ∧ Pers H' (upd H' a (.frz od u)) := by
    intro a u n0 h mu
    obtain ⟨od, I2⟩ := I.lock h mu
    refine ⟨od, I2, fun b o q => ?_, fun b xs q => ?_, fun b o w q => ?_⟩
    · rw [upd_ne (ne_of_none q n0)]; exact e b o q
    · rw [upd_ne (fun z => by rw [z, h] at q; cases q; exact mu)]; exact q
    · rw [upd_ne (fun z => by rw [z, h] at q; cases q; exact mu)]; exact q
  cases d with
  | lst ds =>
    obtain ⟨a, vs, rfl, n0, h, r⟩ := n
    obtain ⟨od, I2, s2, p2⟩ := go n0 h trivial
    exact ⟨_, I2, by simp only [Rep]; exact ⟨a, od, vs, rfl, upd_same, r.pers p2⟩, s2⟩
  | dct ks ds =>
    obtain ⟨a, kvs, rfl, n0, h, k, r⟩ := n
    obtain ⟨od, I2, s2, p2⟩ := go n0 h trivial
    exact ⟨_, I2, by simp only [Rep]; exact ⟨a, od, kvs, rfl, upd_same, k, r.pers p2⟩, s2⟩
  | non => exact ⟨H', I, n, e⟩
  | bl b => exact ⟨H', I, n, e⟩
  | int b => exact ⟨H', I, n, e⟩
  | str b => exact ⟨H', I, n, e⟩
  | tup b => exact ⟨H', I, n, e⟩
/-- what a step hands on: r at the value, all that stood stands -/
def Got (N : Hp → Hp → D → V → Prop) (H : Hp) (o : Option D) (Q : VK) : Prop := ∃ r, o = some r ∧ ∀ v H', Same H H' → N H H' r v → Q v H'
abbrev Old (_ : Hp) (H' : Hp) (d : D) (v : V) : Prop := Rep H' d v
theorem EP.froze {X : Cx} {pins : List (Addr × Obj)} {σ : L2.St} {H : Hp} {s : Shared} {o : Option D} {Q : VK} {u : Value} {M : Model} {A : Around} {t : Sem Value} {E : Value → Shared → Prop}
    (g : Got Old H o Q) (run : ∀ Q', Got New H o Q' → wpAny M A t (EP X pins σ Q') E s) : wpAny M A t (EP X pins σ Q) E s := by
  obtain ⟨r, rfl, k⟩ := g
  refine wpAny_mono (run (fun v H' => Same H H' ∧ New H H' r v) ⟨r, rfl, fun v H' e n => ⟨e, n⟩⟩) ?_ fun _ _ z => z
  rintro u s' ⟨v, H', I, rv, e, n⟩
  obtain ⟨H2, I2, r2, e2⟩ := frozen I n e
  exact ⟨v, H2, I2, rv, k v H2 e2 r2⟩
theorem New.rd {H H' : Hp} : ∀ {d : D} {v : V}, New H H' d v → Rd H' d v
  | .non, _, h => h
  | .bl _, _, h => h
  | .int _, _, h => h
  | .str _, _, h => h
  | .tup _, _, h => h
  | .lst ds, v, h => by obtain ⟨a, vs, e, _, h1, h2⟩ := h; exact ⟨a, vs, e, .inl h1, h2⟩
  | .dct ks ds, v, h => by obtain ⟨a, kvs, e, _, h1, h2, h3⟩ := h; exact ⟨a, kvs, e, .inl h1, h2, h3⟩
/-- data as the library reads it -/
theorem rd_dp {K : PySem.W.Frag} {H : Hp} : ∀ {d : D} {v : V}, Rd H d v → (toP d).canLay0 = true → Dp K H v (toP d) := by
  have core : ∀ n : Nat, (∀ (d : D) (v : V), sizeOf d ≤ n → Rep H d v → (toP d).canLay0 = true → Dp K H v (toP d)) ∧ ∀ (ds : List D) (vs : List V), sizeOf ds ≤ n → RepL H ds vs → PyData.canLayAll0 (toPL ds) = true → DpAll K H vs (toPL ds) := by
    intro n
    induction n with
    | zero =>
      refine ⟨fun d v h => ?_, fun ds v h => ?_⟩
      · cases d <;> simp at h
      · cases ds <;> simp at h
    | succ n ih =>
      refine ⟨fun d v hs h c => ?_, fun ds vs hs h c => ?_⟩
      · cases d with
        | non => simp only [Rep] at h; subst h; simp only [toP]; exact .non
        | bl b => simp only [Rep] at h; subst h; simp only [toP]; exact .bl b
        | int b => simp only [Rep] at h; subst h; simp only [toP]; exact .int b
        | str b => simp only [Rep] at h; obtain ⟨rfl, _⟩ := h; simp only [toP]; exact .str _
        | tup xs =>
          simp only [Rep] at h
          obtain ⟨a, vs, rfl, h1, h2⟩ := h
          simp only [toP, PyData.canLay0] at c ⊢
          exact .tup (SqT.of h1) (ih.2 xs vs (by simp at hs; omega) h2 c)
        | lst xs =>
          simp only [Rep] at h
          obtain ⟨a, o, vs, rfl, h1, h2⟩ := h
          simp only [toP, PyData.canLay0] at c ⊢
          exact .lst (.inl (.inr ⟨o, h1⟩)) (ih.2 xs vs (by simp at hs; omega) h2 c)
        | dct ks xs => simp [toP, PyData.canLay0] at c
      · cases ds with
        | nil => simp only [RepL] at h; subst h; simp only [toPL]; exact .nil
        | cons d ds =>
          simp only [RepL] at h
          obtain ⟨v, r, rfl, h1, h2⟩ := h
          simp only [toPL, PyData.canLayAll0, Bool.and_eq_true] at c ⊢
          exact .cons (ih.1 d v (by simp at hs; omega) h1 c.1) (ih.2 ds r (by simp at hs; omega) h2 c.2)
  intro d v h c
  cases d with
  | lst xs =>
    obtain ⟨a, vs, rfl, h1, h2⟩ := h
    simp only [toP, PyData.canLay0] at c ⊢
    exact .lst (.inl h1) ((core _).2 xs vs (Nat.le_refl _) h2 c)
  | dct ks xs => simp [toP, PyData.canLay0] at c
  | non => exact (core _).1 _ v (Nat.le_refl _) h c
  | bl b => exact (core _).1 _ v (Nat.le_refl _) h c
  | int b => exact (core _).1 _ v (Nat.le_refl _) h c
  | str b => exact (core _).1 _ v (Nat.le_refl _) h c
  | tup b => exact (core _).1 _ v (Nat.le_refl _) h c

/-! ### two places -/
def r2 (N : Hp → Hp → D → V → Prop) (p : P) : R2 := fun x y H Q => ∃ d e, Rd H d x ∧ Rd H e y ∧ Got N H (p.ap [d, e]) Q
theorem OpR.froze {X : Cx} {f : Value → Value → Sem Value} {p : P} (h : OpR X f (r2 New p)) : OpR X f (r2 Old p) := by
  intro pins s σ H x y v u Q I rx ry ⟨d, e, h1, h2, g⟩
  exact EP.froze (u := v) g fun Q' g' => h pins s σ H x y v u Q' I rx ry ⟨d, e, h1, h2, g'⟩
theorem sz_big : sizeLine = big := sizeLine_eq
theorem str_app (x y : List Nat) : (⟨x.toArray⟩ : Str) ++ (⟨y.toArray⟩ : Str) = ⟨(x ++ y).toArray⟩ := by
  show (⟨x.toArray ++ y.toArray⟩ : Str) = _
  simp
theorem str_len (x : List Nat) : (⟨x.toArray⟩ : Str).length = x.length := by
  show x.toArray.size = _
  simp
section
variable {X : Cx}
theorem RepL.rep {H : Hp} {ds : List D} {vs : List V} (r : RepL H ds vs) : ∀ n : Nat, RepL H (List.replicate n ds).flatten (List.replicate n vs).flatten
  | 0 => by simp [RepL]
  | n + 1 => by
    rw [List.replicate_succ, List.replicate_succ, List.flatten_cons, List.flatten_cons]
    exact r.append (RepL.rep r n)
theorem o_add : OpR X (binaryOp .Add) (r2 New .add) := by
  intro pins s σ H x y v u Q I rx ry ⟨d, e, h1, h2, r, hr, k⟩
  cases d <;> cases e <;> simp only [P.ap] at hr <;> try (cases hr; done)
  · cases hr
    cases h1; cases h2
    cases rx
    obtain ⟨t, rfl⟩ := ry
    exact PySem.IntBool.add_bool_int ⟨.int _, H, I.tok _, ⟨_, rfl⟩, k _ H (Same.refl H) rfl⟩
  · cases hr
    cases h1; cases h2
    obtain ⟨t, rfl⟩ := rx
    cases ry
    exact PySem.add_int_bool ⟨.int _, H, I.tok _, ⟨_, rfl⟩, k _ H (Same.refl H) rfl⟩
  · cases hr
    cases h1; cases h2
    exact op_add pins s σ H _ _ v u Q I rx ry ⟨_, _, rfl, rfl, k _ H (Same.refl H) rfl⟩
  · rename_i a b
    obtain ⟨rfl, z1⟩ := h1
    obtain ⟨rfl, z2⟩ := h2
    split at hr
    · cases hr
      refine op_add_str pins s σ H _ _ v u Q I rx ry ⟨_, _, rfl, rfl, ?_, ?_⟩
      · rw [str_len, str_len, sz_big]; assumption
      · rw [str_app]
        refine k _ H (Same.refl H) ⟨rfl, ?_⟩
        rw [List.length_append, sz_big]; assumption
    · cases hr
  · rename_i a b
    simp only [Rd, Rep] at h1 h2
    obtain ⟨pa, va, rfl, g1, q1⟩ := h1
    obtain ⟨pb, vb, rfl, g2, q2⟩ := h2
    split at hr
    · rename_i hz
      cases hr
      have l1 := q1.len
      have l2 := q2.len
      refine op_catA pins s σ H _ _ v u Q I rx ry ⟨pa, pb, va, vb, rfl, rfl, SqT.of g1, SqT.of g2, by rw [sz_big]; omega, fun z => ?_, fun _ z => ?_, fun _ _ p hp => ?_⟩
      · subst z
        have : a = [] := by simpa using l1
        subst this
        exact k _ H (Same.refl H) (by simp only [New, Rep, List.nil_append]; exact ⟨pb, vb, rfl, g2, q2⟩)
      · subst z
        have : b = [] := by simpa using l2
        subst this
        exact k _ H (Same.refl H) (by simp only [New, Rep, List.append_nil]; exact ⟨pa, va, rfl, g1, q1⟩)
      · have e : Same H (upd H p (.tup (va ++ vb))) := fun c o q => by rw [upd_ne (ne_of_none q hp)]; exact q
        exact k _ _ e (by simp only [New, Rep]; exact ⟨p, _, rfl, upd_same, (q1.append q2).pers (Pers.of_same e)⟩)
    · cases hr
  · rename_i a b
    obtain ⟨pa, va, rfl, g1, q1⟩ := h1
    obtain ⟨pb, vb, rfl, g2, q2⟩ := h2
    split at hr
    · rename_i hz
      cases hr
      have l1 := q1.len
      have l2 := q2.len
      cases rx
      cases ry
      obtain ⟨z, its, n, ra, e⟩ := g1.ok I.hok
      obtain ⟨z2, its2, n2, rb, e2⟩ := g2.ok I.hok
      have k1 := ra.length
      have k2 := rb.length
      have zb := sz_big
      refine PySem.P.add_list e e2 ?_ (by rw [List.size_toArray, List.size_toArray]; omega)
      rw [show its.toArray ++ its2.toArray = (its ++ its2).toArray by simp]
      have hp := I.fresh
      have es : Same H (upd H s.heap.objs.size (.lst (va ++ vb))) := fun c o q => by rw [upd_ne (ne_of_none q hp)]; exact q
      exact ⟨.ref _, _, I.lnew (t' := s.toks) (ra.append rb) (by rw [List.length_append]; omega), rfl, k _ _ es ⟨_, _, rfl, hp, upd_same, (q1.append q2).pers (Pers.of_same es)⟩⟩
    · cases hr
theorem o_sub : OpR X (binaryOp .Sub) (r2 New .sub) := by
  intro pins s σ H x y v u Q I rx ry ⟨d, e, h1, h2, r, hr, k⟩
  cases d <;> cases e <;> simp only [P.ap] at hr <;> try (cases hr; done)
  · cases hr
    cases h1; cases h2
    cases rx
    obtain ⟨t, rfl⟩ := ry
    exact PySem.IntBool.sub_bool_int ⟨.int _, H, I.tok _, ⟨_, rfl⟩, k _ H (Same.refl H) rfl⟩
  · cases hr
    cases h1; cases h2
    obtain ⟨t, rfl⟩ := rx
    cases ry
    exact PySem.IntBool.sub_int_bool ⟨.int _, H, I.tok _, ⟨_, rfl⟩, k _ H (Same.refl H) rfl⟩
  · cases hr
    cases h1; cases h2
    exact op_sub pins s σ H _ _ v u Q I rx ry ⟨_, _, rfl, rfl, k _ H (Same.refl H) rfl⟩
theorem fold_app (x : List Nat) : ∀ (n : Nat) (acc : Array Nat), (List.replicate n x.toArray).foldl (· ++ ·) acc = acc ++ (List.replicate n x).flatten.toArray
  | 0, acc => by simp
  | n + 1, acc => by
    rw [List.replicate_succ, List.foldl_cons, fold_app x n, List.replicate_succ, List.flatten_cons]
    simp
theorem mul_str_go {pins : List (Addr × Obj)} {s : Shared} {σ : L2.St} {H : Hp} {v u : Value} {Q : VK} {x : List Nat} {n : Int} {a b : V} (I : Inv X pins σ H s) (rx : RelV a v) (ry : RelV b u) (h1 : Rd H (.str x) a) (h2 : Rd H (.int n) b) (hn : n.natAbs < big) (hz : x.length * n.toNat ≤ big)
    (k : ∀ v H', Same H H' → New H H' (.str (List.replicate n.toNat x).flatten) v → Q v H') : wpAny (model X.prog X.w) X.A (binaryOp .Mult v u) (EP X pins σ Q) X.xe s := by
  obtain ⟨rfl, hx⟩ := h1
  obtain rfl : b = .int n := h2
  obtain ⟨t, rfl⟩ := rx
  obtain ⟨t2, rfl⟩ := ry
  have hb : (big : Nat) = 16777216 := rfl
  have fin : Q (.str ⟨(List.replicate n.toNat x).flatten.toArray⟩) H := k _ H (Same.refl H) ⟨rfl, by
    rw [sz_big, List.length_flatten, List.map_replicate, List.sum_replicate_nat, Nat.mul_comm]; exact hz⟩
  have hl : (⟨x.toArray⟩ : Str).length = x.length := str_len x
  have zb := sz_big
  rw [sz_big] at hx
  refine PySem.P.mul_str (by simp; omega) (fun h0 h3 => ?_) (fun h0 h3 => ?_) ?_
  · rw [hl]
    intro hc
    have h1 : 1 ≤ n := by omega
    have : n * ((2 ^ 63 - 1 : Int) / n) ≤ 2 ^ 63 - 1 := Int.mul_ediv_self_le (by omega)
    have h2 : (2 ^ 63 - 1 : Int) < n * ((2 ^ 63 - 1 : Int) / n) + n := Int.lt_mul_ediv_self_add (by omega)
    have h4 : n * ((2 ^ 63 - 1 : Int) / n + 1) ≤ n * x.length := Int.mul_le_mul_of_nonneg_left (by omega) (by omega)
    have h5 : n * x.length ≤ 16777216 * 16777216 := by
      refine Int.mul_le_mul (by omega) (by omega) (by omega) (by omega)
    rw [Int.mul_add, Int.mul_one] at h4
    omega
  · rw [hl]
    unfold Builtin.Str.tooLong
    exact decide_eq_false (by omega)
  · by_cases c1 : n < 1
    · rw [if_pos c1]
      have : n.toNat = 0 := by omega
      rw [this] at fin
      exact ⟨by show 0 ≤ sizeLine; omega, ⟨.str Str.empty, H, I.tok _, ⟨_, rfl⟩, fin⟩⟩
    · rw [if_neg c1]
      by_cases c2 : (n == 1 || (⟨x.toArray⟩ : Str).length == 0) = true
      · rw [if_pos c2]
        have e : (List.replicate n.toNat x).flatten = x := by
          rw [Bool.or_eq_true] at c2
          rcases c2 with c2 | c2
          · have : n = 1 := by simpa using c2
            subst this
            simp
          · have : x = [] := by
              have : x.length = 0 := by rw [hl] at c2; simpa using c2
              exact List.length_eq_zero_iff.mp this
            subst this
            simp
        rw [e] at fin
        exact ⟨.str ⟨x.toArray⟩, H, I, ⟨t, rfl⟩, fin⟩
      · rw [if_neg c2]
        have e : (List.replicate n.toNat (⟨x.toArray⟩ : Str).cps).foldl (· ++ ·) #[] = (List.replicate n.toNat x).flatten.toArray := by
          rw [show (⟨x.toArray⟩ : Str).cps = x.toArray from rfl, fold_app x n.toNat #[]]
          simp
        refine ⟨?_, ⟨.str ⟨(List.replicate n.toNat x).flatten.toArray⟩, H, I.tok _, ⟨_, by rw [e]⟩, fin⟩⟩
        rw [e, str_len, List.length_flatten, List.map_replicate, List.sum_replicate_nat, Nat.mul_comm]
        omega
theorem mul_lst_go {pins : List (Addr × Obj)} {s : Shared} {σ : L2.St} {H : Hp} {v u : Value} {Q : VK} {x : List D} {n : Int} {a b : V} (I : Inv X pins σ H s) (rx : RelV a v) (ry : RelV b u) (h1 : Rd H (.lst x) a) (h2 : Rd H (.int n) b) (hn : n.natAbs < big) (hz : x.length * n.toNat ≤ big)
    (k : ∀ v H', Same H H' → New H H' (.lst (List.replicate n.toNat x).flatten) v → Q v H') : wpAny (model X.prog X.w) X.A (binaryOp .Mult v u) (EP X pins σ Q) X.xe s := by
  obtain ⟨pa, va, rfl, g1, q1⟩ := h1
  obtain rfl : b = .int n := h2
  cases rx
  obtain ⟨t, rfl⟩ := ry
  obtain ⟨z, its, m, ra, e⟩ := g1.ok I.hok
  have zb := sz_big
  have hb : (big : Nat) = 16777216 := rfl
  have l1 := q1.len
  have l2 := ra.length
  have sz : its.toArray.size = x.length := by rw [List.size_toArray]; omega
  have bigs : (16777216 : Nat) ≤ (2 ^ 63 - 1) / 8 := by decide
  have fit : ¬ (!Builtin.List.listFitsIndex n) = true := by
    rw [fitsIndex_both (by omega) (by omega)]
    decide
  have short : ¬ Builtin.List.listTooLong (its.toArray.size * n.toNat) = true := by
    rw [notLongL (by rw [sz]; omega)]
    decide
  have room : ¬ its.toArray.size * n.toNat > (2 ^ 63 - 1) / 8 := by rw [sz]; omega
  have new : (List.replicate (if its.toArray.isEmpty = true then 0 else n.toNat) its.toArray).foldl (fun a b => a ++ b) #[] = (List.replicate n.toNat its).flatten.toArray := by
    have gen := fun j : Nat => foldl_rep its j []
    simp only [List.nil_append] at gen
    cases its with
    | nil => simp
    | cons y r => exact gen n.toNat
  have rr := q1.rep n.toNat
  have hp := I.fresh
  have es : Same H (upd H s.heap.objs.size (.lst (List.replicate n.toNat va).flatten)) := fun c o q => by rw [upd_ne (ne_of_none q hp)]; exact q
  have res : Q (.ref s.heap.objs.size) (upd H s.heap.objs.size (.lst (List.replicate n.toNat va).flatten)) := k _ _ es ⟨_, _, rfl, hp, upd_same, rr.pers (Pers.of_same es)⟩
  have lz : (List.replicate n.toNat va).flatten.length ≤ sizeLine := by rw [List.length_flatten, List.map_replicate, List.sum_replicate_nat, Nat.mul_comm, ← l1]; omega
  have tl : s.TypeIs (.ref pa) "list" := ⟨_, e, rfl⟩
  have inner := AutoListH.list___mul___list_int_3 pa its.toArray m n t fit room short
  refine wpAny_binaryOp_repeat_ref (T := "list") (U := "int") (by decide) tl (fun s' => typeIs_int s' n t) noFill_list_mul F.fills_int_mul F.slot_int_rmul repeat_list F.slot_int_index.lookup ?_
  refine call_meets F.slot_int_rmul (typeIs_int s n t) F.entry_int_rmul (F.args_int_rmul_2 _ _) (int___rmul___int_list n t pa its.toArray m) ⟨e, rfl, tl, ?_⟩
  refine call_meets F.slot_list_mul tl F.entry_list_mul (F.args_list_mul_2 _ _) inner ⟨e, ?_⟩
  rw [new]
  exact ⟨.ref _, _, I.lnew (t' := s.toks) (ra.rep n.toNat) lz, rfl, res⟩
theorem o_mul : OpR X (binaryOp .Mult) (r2 New .mul) := by
  intro pins s σ H x y v u Q I rx ry ⟨d, e, h1, h2, r, hr, k⟩
  cases d <;> cases e <;> simp only [P.ap] at hr <;> try (cases hr; done)
  rotate_left
  · split at hr
    · rename_i x n hz
      cases hr
      exact mul_str_go I rx ry h1 h2 hz.1 hz.2 k
    · cases hr
  · split at hr
    · rename_i x n hz
      cases hr
      exact mul_lst_go I rx ry h1 h2 hz.1 hz.2 k
    · cases hr
  split at hr
  · rename_i i j hz
    cases hr
    cases h1; cases h2
    refine op_mul pins s σ H _ _ v u Q I rx ry ⟨_, _, rfl, rfl, ?_, k _ H (Same.refl H) rfl⟩
    rcases hz with hz | hz
    · exact .inl ⟨by omega, by omega⟩
    · exact .inr ⟨by omega, by omega⟩
  · cases hr
theorem o_fdiv : OpR X (binaryOp .FloorDiv) (r2 New .fdiv) := by
  intro pins s σ H x y v u Q I rx ry ⟨d, e, h1, h2, r, hr, k⟩
  cases d <;> cases e <;> simp only [P.ap] at hr <;> try (cases hr; done)
  split at hr
  · rename_i i j hz
    cases hr
    cases h1; cases h2
    exact op_fdivN pins s σ H _ _ v u Q I rx ry ⟨_, _, rfl, rfl, hz, k _ H (Same.refl H) rfl⟩
  · cases hr
theorem o_mod : OpR X (binaryOp .Mod) (r2 New .mod) := by
  intro pins s σ H x y v u Q I rx ry ⟨d, e, h1, h2, r, hr, k⟩
  cases d <;> cases e <;> simp only [P.ap] at hr <;> try (cases hr; done)
  split at hr
  · rename_i i j hz
    cases hr
    cases h1; cases h2
    exact op_modN pins s σ H _ _ v u Q I rx ry ⟨_, _, rfl, rfl, hz, k _ H (Same.refl H) rfl⟩
  · cases hr
theorem o_pow : OpR X (binaryOp .Pow) (r2 New .pow) := by
  intro pins s σ H x y v u Q I rx ry ⟨d, e, h1, h2, r, hr, k⟩
  cases d <;> cases e <;> simp only [P.ap] at hr <;> try (cases hr; done)
  split at hr
  · rename_i i j hz
    cases hr
    cases h1; cases h2
    exact op_pow pins s σ H _ _ v u Q I rx ry ⟨_, _, rfl, rfl, hz, k _ H (Same.refl H) rfl⟩
  · cases hr

/-! ### one place -/
def r1 (N : Hp → Hp → D → V → Prop) (p : P) : V → Hp → VK → Prop := fun x H Q => ∃ d, Rd H d x ∧ Got N H (p.ap [d]) Q
theorem o_neg : UnR X (unaryOp .USub) (r1 New .neg) := by
  intro pins s σ H x v Q I rx ⟨d, h1, r, hr, k⟩
  cases d <;> simp only [P.ap] at hr <;> try (cases hr; done)
  cases hr
  cases h1
  exact un_neg pins s σ H _ v Q I rx ⟨_, rfl, k _ H (Same.refl H) rfl⟩

/-! ### comparisons -/
theorem shaped_lay {d : PyData} (h : SeqAt.shaped d = true) : d.canLay0 = true := by
  unfold SeqAt.shaped at h
  rw [Bool.and_eq_true] at h
  exact h.1
theorem str_eq (x y : List Nat) : decide (V.str ⟨x.toArray⟩ = V.str ⟨y.toArray⟩) = decide (x = y) := by
  by_cases h : x = y
  · subst h; simp
  · rw [decide_eq_false h]
    refine decide_eq_false fun z => h ?_
    injection z with z
    injection z with z
    exact by simpa using congrArg Array.toList z
theorem eqD_run {d e : D} {c : Bool} (h : eqD d e = some c) {H : Hp} {x y : V} (h1 : Rd H d x) (h2 : Rd H e y) :
    (scal x y = true ∧ decide (x = y) = c) ∨ (SeqAt.shaped (toP d) = true ∧ SeqAt.shaped (toP e) = true ∧ PyData.eqv (toP d) (toP e) = c) := by
  have gen : (if SeqAt.shaped (toP d) && SeqAt.shaped (toP e) then some (PyData.eqv (toP d) (toP e)) else none) = some c → (SeqAt.shaped (toP d) = true ∧ SeqAt.shaped (toP e) = true ∧ PyData.eqv (toP d) (toP e) = c) := by
    intro q
    split at q
    · rename_i z
      rw [Bool.and_eq_true] at z
      cases q
      exact ⟨z.1, z.2, rfl⟩
    · cases q
  cases d <;> cases e <;> first
    | exact .inr (gen h)
    | (left
       simp only [eqD, Option.some.injEq] at h
       simp only [Rd, Rep] at h1 h2
       first
         | (subst h1; subst h2; subst h; exact ⟨rfl, by simp⟩)
         | (subst h1; subst h; obtain ⟨rfl, _⟩ := h2; exact ⟨rfl, by simp⟩)
         | (subst h2; subst h; obtain ⟨rfl, _⟩ := h1; exact ⟨rfl, by simp⟩)
         | (subst h; obtain ⟨rfl, _⟩ := h1; obtain ⟨rfl, _⟩ := h2; exact ⟨rfl, str_eq _ _⟩))
theorem o_eq (hu : X.A.units + 64 < cLine) : OpR X (compareOp .Eq) (r2 New .eq) := by
  intro pins s σ H x y v u Q I rx ry ⟨d, e, h1, h2, r, hr, k⟩
  simp only [P.ap] at hr
  cases q : eqD d e with
  | none => rw [q] at hr; cases hr
  | some c =>
    rw [q] at hr
    cases hr
    rcases eqD_run q h1 h2 with ⟨z1, z2⟩ | ⟨z1, z2, z3⟩
    · exact op_eq pins s σ H x y v u Q I rx ry ⟨z1, by rw [z2]; exact k _ H (Same.refl H) rfl⟩
    · exact op_eqD hu pins s σ H x y v u Q I rx ry ⟨_, _, rd_dp h1 (shaped_lay z1), rd_dp h2 (shaped_lay z2), z1, z2, by rw [z3]; exact k _ H (Same.refl H) rfl⟩
theorem o_ne (hu : X.A.units + 64 < cLine) : OpR X (compareOp .NotEq) (r2 New .ne) := by
  intro pins s σ H x y v u Q I rx ry ⟨d, e, h1, h2, r, hr, k⟩
  simp only [P.ap] at hr
  cases q : eqD d e with
  | none => rw [q] at hr; cases hr
  | some c =>
    rw [q] at hr
    cases hr
    rcases eqD_run q h1 h2 with ⟨z1, z2⟩ | ⟨z1, z2, z3⟩
    · exact op_ne pins s σ H x y v u Q I rx ry ⟨z1, by rw [z2]; exact k _ H (Same.refl H) rfl⟩
    · exact op_neD hu pins s σ H x y v u Q I rx ry ⟨_, _, rd_dp h1 (shaped_lay z1), rd_dp h2 (shaped_lay z2), z1, z2, by rw [z3]; exact k _ H (Same.refl H) rfl⟩
theorem o_lt : OpR X (compareOp .Lt) (r2 New .lt) := by
  intro pins s σ H x y v u Q I rx ry ⟨d, e, h1, h2, r, hr, k⟩
  cases d <;> cases e <;> simp only [P.ap] at hr <;> try (cases hr; done)
  cases hr; cases h1; cases h2
  exact op_lt pins s σ H _ _ v u Q I rx ry ⟨_, _, rfl, rfl, k _ H (Same.refl H) rfl⟩
theorem o_le : OpR X (compareOp .LtE) (r2 New .le) := by
  intro pins s σ H x y v u Q I rx ry ⟨d, e, h1, h2, r, hr, k⟩
  cases d <;> cases e <;> simp only [P.ap] at hr <;> try (cases hr; done)
  cases hr; cases h1; cases h2
  exact op_le pins s σ H _ _ v u Q I rx ry ⟨_, _, rfl, rfl, k _ H (Same.refl H) rfl⟩
theorem o_gt : OpR X (compareOp .Gt) (r2 New .gt) := by
  intro pins s σ H x y v u Q I rx ry ⟨d, e, h1, h2, r, hr, k⟩
  cases d <;> cases e <;> simp only [P.ap] at hr <;> try (cases hr; done)
  cases hr; cases h1; cases h2
  exact op_gt pins s σ H _ _ v u Q I rx ry ⟨_, _, rfl, rfl, k _ H (Same.refl H) rfl⟩
theorem o_ge : OpR X (compareOp .GtE) (r2 New .ge) := by
  intro pins s σ H x y v u Q I rx ry ⟨d, e, h1, h2, r, hr, k⟩
  cases d <;> cases e <;> simp only [P.ap] at hr <;> try (cases hr; done)
  cases hr; cases h1; cases h2
  exact op_ge pins s σ H _ _ v u Q I rx ry ⟨_, _, rfl, rfl, k _ H (Same.refl H) rfl⟩
theorem room_in {A : Around} {xs : List PyData} {d : PyData} (hd : SeqAt.shaped d = true) (hu : A.units + 65 < cLine) : A.units + 1 + min (PyData.depthAll xs) d.depth < cLine :=
  PyProof.Rows.room_in_shaped hd hu
theorem inD_run (hu : X.A.units + 65 < cLine) {d e : D} {c : Bool} (h : inD d e = some c) {pins : List (Addr × Obj)} {s : Shared} {σ : L2.St} {H : Hp} {x y : V} {v u : Value} (I : Inv X pins σ H s) (rx : RelV x v) (ry : RelV y u) (h1 : Rd H d x) (h2 : Rd H e y) :
    (∀ {Q : Value → Shared → Prop} {E : Value → Shared → Prop}, Q (.bool c) s → wpAny (model X.prog X.w) X.A (compareOp .In v u) Q E s) ∧
    (∀ {Q : Value → Shared → Prop} {E : Value → Shared → Prop}, Q (.bool (!c)) s → wpAny (model X.prog X.w) X.A (compareOp .NotIn v u) Q E s) := by
  cases e <;> simp only [inD] at h <;> try (cases h; done)
  · rename_i z
    split at h
    · rename_i a
      cases h
      simp only [Rd, Rep] at h1 h2
      obtain ⟨rfl, _⟩ := h1
      obtain ⟨rfl, _⟩ := h2
      obtain ⟨t, rfl⟩ := rx
      obtain ⟨t', rfl⟩ := ry
      have fo := PySem.StrLaws.found_one ⟨z.toArray⟩ a
      simp only [List.toList_toArray] at fo
      rw [show (⟨[a].toArray⟩ : Str) = ⟨#[a]⟩ from rfl]
      refine ⟨fun q => PyProof.Rows.in_str ?_, fun q => PyProof.Rows.notIn_str ?_⟩
      · rw [fo]; exact q
      · rw [fo]; exact q
    · cases h
  · rename_i z
    split at h
    · rename_i hz
      rw [Bool.and_eq_true] at hz
      cases h
      obtain ⟨as, q1⟩ := Dp.reads I _ x v (rd_dp h1 (shaped_lay hz.1)) rx
      obtain ⟨bs, q2⟩ := Dp.reads I _ y u (rd_dp h2 (shaped_lay hz.2)) ry
      simp only [toP] at q2 hz
      exact ⟨fun q => SeqAt.in_tuple_reads q2 q1 (SeqAt.canLay_of_shaped hz.2) (SeqAt.canLay_of_shaped hz.1) (room_in hz.1 hu) q, fun q => SeqAt.notIn_tuple_reads q2 q1 (SeqAt.canLay_of_shaped hz.2) (SeqAt.canLay_of_shaped hz.1) (room_in hz.1 hu) q⟩
    · cases h
  · rename_i z
    split at h
    · rename_i hz
      rw [Bool.and_eq_true] at hz
      cases h
      obtain ⟨as, q1⟩ := Dp.reads I _ x v (rd_dp h1 (shaped_lay hz.1)) rx
      obtain ⟨bs, q2⟩ := Dp.reads I _ y u (rd_dp h2 (shaped_lay hz.2)) ry
      simp only [toP] at q2 hz
      exact ⟨fun q => SeqAt.in_list_reads q2 q1 (SeqAt.canLay_of_shaped hz.2) (SeqAt.canLay_of_shaped hz.1) (room_in hz.1 hu) q, fun q => SeqAt.notIn_list_reads q2 q1 (SeqAt.canLay_of_shaped hz.2) (SeqAt.canLay_of_shaped hz.1) (room_in hz.1 hu) q⟩
    · cases h
theorem o_in (hu : X.A.units + 65 < cLine) : OpR X (compareOp .In) (r2 New .isin) := by
  intro pins s σ H x y v u Q I rx ry ⟨d, e, h1, h2, r, hr, k⟩
  simp only [P.ap] at hr
  cases q : inD d e with
  | none => rw [q] at hr; cases hr
  | some c =>
    rw [q] at hr
    cases hr
    exact (inD_run hu q I rx ry h1 h2).1 ⟨.bl _, H, I, rfl, k _ H (Same.refl H) rfl⟩
theorem o_notin (hu : X.A.units + 65 < cLine) : OpR X (compareOp .NotIn) (r2 New .notin) := by
  intro pins s σ H x y v u Q I rx ry ⟨d, e, h1, h2, r, hr, k⟩
  simp only [P.ap] at hr
  cases q : inD d e with
  | none => rw [q] at hr; cases hr
  | some c =>
    rw [q] at hr
    cases hr
    exact (inD_run hu q I rx ry h1 h2).2 ⟨.bl _, H, I, rfl, k _ H (Same.refl H) rfl⟩
/-- is None: the right one is the written None -/
theorem o_isN : OpR X (compareOp .Is) (fun x y H Q => y = .non ∧ ∃ d, Rd H d x ∧ Got New H (P.isNone.ap [d]) Q) := by
  intro pins s σ H x y v u Q I rx ry ⟨e, d, h1, r, hr, k⟩
  simp only [P.ap] at hr
  refine op_isN pins s σ H x y v u Q I rx ry ⟨e, ?_⟩
  cases hr
  have : decide (x = .non) = d.isNon := by
    cases d <;> simp only [Rd, Rep] at h1
    · subst h1; rfl
    · subst h1; rfl
    · subst h1; rfl
    · obtain ⟨rfl, _⟩ := h1; rfl
    · obtain ⟨_, _, rfl, _⟩ := h1; rfl
    · obtain ⟨_, _, rfl, _⟩ := h1; rfl
    · obtain ⟨_, _, rfl, _⟩ := h1; rfl
  rw [this]
  exact k _ H (Same.refl H) rfl
theorem o_notN : OpR X (compareOp .IsNot) (fun x y H Q => y = .non ∧ ∃ d, Rd H d x ∧ Got New H (P.notNone.ap [d]) Q) := by
  intro pins s σ H x y v u Q I rx ry ⟨e, d, h1, r, hr, k⟩
  simp only [P.ap] at hr
  refine op_notN pins s σ H x y v u Q I rx ry ⟨e, ?_⟩
  cases hr
  have : (!decide (x = .non)) = !d.isNon := by
    cases d <;> simp only [Rd, Rep] at h1
    · subst h1; rfl
    · subst h1; rfl
    · subst h1; rfl
    · obtain ⟨rfl, _⟩ := h1; rfl
    · obtain ⟨_, _, rfl, _⟩ := h1; rfl
    · obtain ⟨_, _, rfl, _⟩ := h1; rfl
    · obtain ⟨_, _, rfl, _⟩ := h1; rfl
  rw [this]
  exact k _ H (Same.refl H) rfl
end
end Rf

set_option Elab.async false
set_option linter.all false
set_option maxRecDepth 100000
set_option maxHeartbeats 4000000
namespace Rf
open PySem PySem.Spec PyProof.Rows L2

/-! ### calls of built-ins with one value -/
def rc (N : Hp → Hp → D → V → Prop) (p : P) : List V → Hp → VK → Prop := fun xs H Q => ∃ ds, RdL H ds xs ∧ Got N H (p.ap ds) Q
theorem RdL.one {H : Hp} {d : D} {xs : List V} (h : RdL H [d] xs) : ∃ x, xs = [x] ∧ Rd H d x := by
  obtain ⟨v, r, rfl, h1, h2⟩ := h
  obtain rfl : r = [] := h2
  exact ⟨v, rfl, h1⟩
theorem RdL.two {H : Hp} {d e : D} {xs : List V} (h : RdL H [d, e] xs) : ∃ x y, xs = [x, y] ∧ Rd H d x ∧ Rd H e y := by
  obtain ⟨v, r, rfl, h1, h2⟩ := h
  obtain ⟨y, rfl, h3⟩ := RdL.one h2
  exact ⟨v, y, rfl, h1, h3⟩
theorem CallR.froze {X : Cx} {f : Value} {p : P} (h : CallR X f (rc New p)) : CallR X f (rc Old p) := by
  intro pins s σ H xs us Q I r ⟨ds, h1, g⟩
  exact EP.froze (u := f) g fun Q' g' => h pins s σ H xs us Q' I r ⟨ds, h1, g'⟩
theorem same_upd {H : Hp} {p : Addr} {o : HO} (hp : H p = none) : Same H (upd H p o) := fun c u q => by rw [upd_ne (ne_of_none q hp)]; exact q
section
variable {X : Cx}
theorem c_len : CallR X (.builtin "len") (rc New .len) := by
  intro pins s σ H xs us Q I r ⟨ds, h1, d, hr, k⟩
  cases ds with
  | nil => simp only [P.ap] at hr; cases hr
  | cons a as =>
    cases as with
    | cons b bs => cases a <;> simp only [P.ap] at hr <;> cases hr
    | nil =>
      obtain ⟨x, rfl, h⟩ := h1.one
      cases a <;> simp only [P.ap] at hr <;> try (cases hr; done)
      · rename_i z
        cases hr
        obtain ⟨rfl, hz⟩ := h
        refine call_len pins s σ H _ us Q I r ⟨_, z.length, rfl, ⟨by rw [str_len]; exact hz, by rw [str_len]⟩, k _ H (Same.refl H) rfl⟩
      · rename_i z
        cases hr
        obtain ⟨b, vs, rfl, g1, g2⟩ := h
        rw [g2.len] at k
        exact call_len pins s σ H _ us Q I r ⟨_, vs.length, rfl, .inr ⟨vs, SqT.of g1, rfl⟩, k _ H (Same.refl H) rfl⟩
      · rename_i z
        cases hr
        obtain ⟨b, vs, rfl, g1, g2⟩ := h
        rw [g2.len] at k
        exact call_len pins s σ H _ us Q I r ⟨_, vs.length, rfl, .inl ⟨vs, .inl g1, rfl⟩, k _ H (Same.refl H) rfl⟩
      · rename_i ks z
        cases hr
        obtain ⟨b, kvs, rfl, g1, g2, g3⟩ := h
        subst g2
        rw [List.length_map] at k
        obtain ⟨u, rfl, ru⟩ := vals1 r
        cases ru
        exact d_len I g1 fun t s' I' => ⟨.int kvs.length, H, I', ⟨t, rfl⟩, k _ H (Same.refl H) rfl⟩
def Ty.name : Ty → String
  | .int => "int"
  | .bool => "bool"
  | .str => "str"
  | .tuple => "tuple"
  | .list => "list"
  | .dict => "dict"
def D.ty : D → String
  | .non => "NoneType"
  | .bl _ => "bool"
  | .int _ => "int"
  | .str _ => "str"
  | .tup _ => "tuple"
  | .lst _ => "list"
  | .dct _ _ => "dict"
theorem rd_ty {K : PySem.W.Frag} {H : Hp} : ∀ {d : D} {v : V}, Rd H d v → TyX K H v (.type d.ty)
  | .non, _, h => by cases h; exact .base .non
  | .bl b, _, h => by cases h; exact .base (.bl b)
  | .int i, _, h => by cases h; exact .base (.int i)
  | .str x, _, h => by obtain ⟨rfl, _⟩ := h; exact .base (.str _)
  | .tup xs, _, h => by obtain ⟨a, vs, rfl, g, _⟩ := h; exact .base (.tup g)
  | .lst xs, _, h => by
    obtain ⟨a, vs, rfl, g, _⟩ := h
    rcases g with g | ⟨o, g⟩
    · exact .base (.lst g)
    · exact .base (.frz g)
  | .dct ks xs, _, h => by
    obtain ⟨a, kvs, rfl, g, _⟩ := h
    rcases g with g | ⟨o, g⟩
    · exact .base (.dK g)
    · exact .fDict g
theorem kit_is (t : Ty) (d : D) : L2.kitB d.ty t.name = some (isTy t d) := by
  cases t <;> cases d <;> first | (show L2.kitB _ _ = _; simp only [D.ty, Ty.name, isTy]; decide +kernel)
theorem c_isa (t : Ty) : CallR X (.builtin "isinstance") (fun xs H Q => ∃ x d, xs = [x, .ty t.name] ∧ Rd H d x ∧ Got New H ((P.isa t).ap [d]) Q) := by
  intro pins s σ H xs us Q I r ⟨x, d, e, h, r2, hr, k⟩
  simp only [P.ap] at hr
  cases hr
  exact call_isi pins s σ H xs us Q I r ⟨x, .ty t.name, .type d.ty, .type t.name, isTy t d, e, .ty _, rd_ty h, kit_ty (kit_is t d), k _ H (Same.refl H) rfl⟩
theorem c_int : CallR X (.type "int") (rc New .int) := by
  intro pins s σ H xs us Q I r ⟨ds, h1, d, hr, k⟩
  cases ds with
  | nil => simp only [P.ap] at hr; cases hr
  | cons a as =>
    cases as with
    | cons b bs => cases a <;> simp only [P.ap] at hr <;> cases hr
    | nil =>
      obtain ⟨x, rfl, h⟩ := h1.one
      cases a <;> simp only [P.ap] at hr <;> try (cases hr; done)
      · cases hr; cases h
        exact call_int1 pins s σ H _ us Q I r (.inr ⟨_, rfl, k _ H (Same.refl H) rfl⟩)
      · cases hr; cases h
        exact call_int1 pins s σ H _ us Q I r (.inl ⟨_, rfl, k _ H (Same.refl H) rfl⟩)
theorem c_ord : CallR X (.builtin "ord") (rc New .ord) := by
  intro pins s σ H xs us Q I r ⟨ds, h1, d, hr, k⟩
  cases ds with
  | nil => simp only [P.ap] at hr; cases hr
  | cons a as =>
    cases as with
    | cons b bs => cases a <;> simp only [P.ap] at hr <;> cases hr
    | nil =>
      obtain ⟨x, rfl, h⟩ := h1.one
      cases a <;> simp only [P.ap] at hr <;> try (cases hr; done)
      split at hr
      · rename_i c
        cases hr
        obtain ⟨rfl, _⟩ := h
        exact call_ord pins s σ H _ us Q I r ⟨_, rfl, rfl, k _ H (Same.refl H) rfl⟩
      · cases hr
theorem c_list : CallR X (.type "list") (rc New .list) := by
  intro pins s σ H xs us Q I r ⟨ds, h1, d, hr, k⟩
  cases ds with
  | nil => simp only [P.ap] at hr; cases hr
  | cons a as =>
    cases as with
    | cons b bs => cases a <;> simp only [P.ap] at hr <;> cases hr
    | nil =>
      obtain ⟨x, rfl, h⟩ := h1.one
      cases a <;> simp only [P.ap] at hr <;> try (cases hr; done)
      · cases hr
        obtain ⟨b, vs, rfl, g1, g2⟩ := h
        exact call_list_of pins s σ H _ us Q I r ⟨b, vs, rfl, .inr (SqT.of g1), fun l hl => k _ _ (same_upd hl) ⟨l, vs, rfl, hl, upd_same, RepL.pers (Pers.of_same (same_upd hl)) _ _ g2⟩⟩
      · cases hr
        obtain ⟨b, vs, rfl, g1, g2⟩ := h
        exact call_list_of pins s σ H _ us Q I r ⟨b, vs, rfl, .inl (.inl g1), fun l hl => k _ _ (same_upd hl) ⟨l, vs, rfl, hl, upd_same, RepL.pers (Pers.of_same (same_upd hl)) _ _ g2⟩⟩
theorem c_tuple : CallR X (.type "tuple") (rc New .tuple) := by
  intro pins s σ H xs us Q I r ⟨ds, h1, d, hr, k⟩
  cases ds with
  | nil => simp only [P.ap] at hr; cases hr
  | cons a as =>
    cases as with
    | cons b bs => cases a <;> simp only [P.ap] at hr <;> cases hr
    | nil =>
      obtain ⟨x, rfl, h⟩ := h1.one
      cases a <;> simp only [P.ap] at hr <;> try (cases hr; done)
      · cases hr
        obtain ⟨b, vs, rfl, g1, g2⟩ := h
        exact call_tuple_of pins s σ H _ us Q I r ⟨b, vs, rfl, .inr ⟨SqT.of g1, k _ H (Same.refl H) ⟨b, vs, rfl, g1, g2⟩⟩⟩
      · cases hr
        obtain ⟨b, vs, rfl, g1, g2⟩ := h
        exact call_tuple_of pins s σ H _ us Q I r ⟨b, vs, rfl, .inl ⟨.inl g1, fun l hl => k _ _ (same_upd hl) ⟨l, vs, rfl, upd_same, RepL.pers (Pers.of_same (same_upd hl)) _ _ g2⟩⟩⟩
theorem boolsD_run {H : Hp} : ∀ {ds : List D} {vs : List V} {bs : List Bool}, RepL H ds vs → boolsD ds = some bs → vs = bs.map V.bl
  | [], vs, bs, h, e => by
    simp only [RepL] at h
    simp only [boolsD] at e
    cases e; subst h; rfl
  | d :: ds, vs, bs, h, e => by
    simp only [RepL] at h
    obtain ⟨v, r, rfl, h1, h2⟩ := h
    cases d <;> simp only [boolsD] at e <;> try (cases e; done)
    cases q : boolsD ds with
    | none => rw [q] at e; cases e
    | some cs =>
      rw [q] at e
      cases e
      cases h1
      rw [boolsD_run h2 q]
      rfl
theorem c_all (hc : X.calm = true) : CallR X (.builtin "all") (rc New .all) := by
  intro pins s σ H xs us Q I r ⟨ds, h1, d, hr, k⟩
  cases ds with
  | nil => simp only [P.ap] at hr; cases hr
  | cons a as =>
    cases as with
    | cons b bs => cases a <;> simp only [P.ap] at hr <;> cases hr
    | nil =>
      obtain ⟨x, rfl, h⟩ := h1.one
      cases a <;> simp only [P.ap] at hr <;> try (cases hr; done)
      rename_i z
      cases q : boolsD z with
      | none => rw [q] at hr; cases hr
      | some cs =>
        rw [q] at hr
        cases hr
        obtain ⟨b, vs, rfl, g1, g2⟩ := h
        rw [boolsD_run g2 q] at g1
        exact cr_all hc pins s σ H _ us Q I r ⟨b, cs, rfl, .inl g1, k _ H (Same.refl H) rfl⟩
theorem c_any (hc : X.calm = true) : CallR X (.builtin "any") (rc New .any) := by
  intro pins s σ H xs us Q I r ⟨ds, h1, d, hr, k⟩
  cases ds with
  | nil => simp only [P.ap] at hr; cases hr
  | cons a as =>
    cases as with
    | cons b bs => cases a <;> simp only [P.ap] at hr <;> cases hr
    | nil =>
      obtain ⟨x, rfl, h⟩ := h1.one
      cases a <;> simp only [P.ap] at hr <;> try (cases hr; done)
      rename_i z
      cases q : boolsD z with
      | none => rw [q] at hr; cases hr
      | some cs =>
        rw [q] at hr
        cases hr
        obtain ⟨b, vs, rfl, g1, g2⟩ := h
        rw [boolsD_run g2 q] at g1
        exact cr_any hc pins s σ H _ us Q I r ⟨b, cs, rfl, .inl g1, k _ H (Same.refl H) rfl⟩

/-! ### items, slices -/
theorem atI_repL {H : Hp} {ds : List D} {vs : List V} {i : Int} {d : D} (h : RepL H ds vs) (e : atI ds i = some d) : ∃ v, atI vs i = some v ∧ Rep H d v := by
  unfold atI at e ⊢
  rw [← h.len]
  cases q : ixN ds.length i with
  | none => rw [q] at e; cases e
  | some j =>
    rw [q] at e
    obtain ⟨v, h1, h2⟩ := h.get (i := j) e
    exact ⟨v, h1, h2⟩
theorem key_rd {H : Hp} {e : D} {k : Key} {y : V} (h : keyD e = some k) (r : Rd H e y) : y = kV k := by
  cases e <;> simp only [keyD] at h <;> try (cases h; done)
  · cases h; exact r
  · cases h; exact r.1
theorem getK_zip {H : Hp} {k : Key} {ks : List Key} {ds : List D} {kvs : List (Key × V)} (h1 : kvs.map (·.1) = ks) (h2 : RepL H ds (kvs.map (·.2))) : (∀ d, getK (ks.zip ds) k = some d → ∃ v, valV kvs k = some v ∧ Rep H d v) ∧ (getK (ks.zip ds) k = none → valV kvs k = none) := by
  subst h1
  induction kvs generalizing ds with
  | nil => exact ⟨fun d h => by simp [getK] at h, fun _ => rfl⟩
  | cons q r ih =>
    cases ds with
    | nil => simp [RepL] at h2
    | cons d ds =>
      simp only [List.map_cons, RepL] at h2
      obtain ⟨v, r', e, g1, g2⟩ := h2
      obtain ⟨e1, e2⟩ := List.cons.inj e
      subst e2
      obtain ⟨i1, i2⟩ := ih g2
      unfold getK valV at i1 i2 ⊢
      simp only [List.map_cons, List.zip_cons_cons, List.find?_cons]
      by_cases z : q.1 = k
      · simp only [z, decide_true]
        exact ⟨fun d' h => by cases h; exact ⟨_, rfl, by show Rep H d q.2; rw [e1]; exact g1⟩, fun h => by cases h⟩
      · simp only [z, decide_false]
        exact ⟨i1, i2⟩
theorem ix_str_go {value slice : Expr} {pins : List (Addr × Obj)} {s : Shared} {σ : L2.St} {H : Hp} {x : V} {v u : Value} {Q : VK} {r : D} {z : List Nat} {i : Int} (I : Inv X pins σ H s) (rx : RelV x v) (ry : RelV (.int i) u) (h1 : Rd H (.str z) x) (hr : ixD (.str z) i = some r)
    (k : ∀ v H', Same H H' → Old H H' r v → Q v H') (hs : subscripted slice false v u = operate [v, u] (getItem v u)) : wpAny (model X.prog X.w) X.A (subscriptTail value slice v u) (EP X pins σ Q) X.xe s := by
  simp only [ixD] at hr
  obtain ⟨rfl, hz⟩ := h1
  cases q : atI z i with
  | none => rw [q] at hr; cases hr
  | some c =>
    rw [q] at hr
    cases hr
    exact ix_str value slice pins s σ H _ _ v u Q I rx ry ⟨_, _, c, rfl, rfl, by rw [str_len]; exact hz, by simpa using q, k _ H (Same.refl H) ⟨rfl, by rw [sz_big]; show 1 ≤ big; decide⟩⟩ hs
theorem ix_tup_go {value slice : Expr} {pins : List (Addr × Obj)} {s : Shared} {σ : L2.St} {H : Hp} {x : V} {v u : Value} {Q : VK} {r : D} {z : List D} {i : Int} (I : Inv X pins σ H s) (rx : RelV x v) (ry : RelV (.int i) u) (h1 : Rd H (.tup z) x) (hr : ixD (.tup z) i = some r)
    (k : ∀ v H', Same H H' → Old H H' r v → Q v H') (hs : subscripted slice false v u = operate [v, u] (getItem v u)) : wpAny (model X.prog X.w) X.A (subscriptTail value slice v u) (EP X pins σ Q) X.xe s := by
  simp only [ixD] at hr
  obtain ⟨b, vs, rfl, g1, g2⟩ := h1
  obtain ⟨w', q1, q2⟩ := atI_repL g2 hr
  exact ix_tup value slice pins s σ H _ _ v u Q I rx ry ⟨b, vs, i, w', rfl, rfl, SqT.of g1, q1, k _ H (Same.refl H) q2⟩ hs
theorem ix_lst_go {value slice : Expr} {pins : List (Addr × Obj)} {s : Shared} {σ : L2.St} {H : Hp} {x : V} {v u : Value} {Q : VK} {r : D} {z : List D} {i : Int} (I : Inv X pins σ H s) (rx : RelV x v) (ry : RelV (.int i) u) (h1 : Rd H (.lst z) x) (hr : ixD (.lst z) i = some r)
    (k : ∀ v H', Same H H' → Old H H' r v → Q v H') (hs : subscripted slice false v u = operate [v, u] (getItem v u)) : wpAny (model X.prog X.w) X.A (subscriptTail value slice v u) (EP X pins σ Q) X.xe s := by
  simp only [ixD] at hr
  obtain ⟨b, vs, rfl, g1, g2⟩ := h1
  obtain ⟨w', q1, q2⟩ := atI_repL g2 hr
  exact ix_list value slice pins s σ H _ _ v u Q I rx ry ⟨b, vs, i, w', rfl, rfl, .inl g1, q1, k _ H (Same.refl H) q2⟩ hs
theorem i_ix (hu : X.A.units + 1 < cLine) : IxR X (r2 Old .ix) := by
  intro value slice pins s σ H x y v u Q I rx ry ⟨d, e, h1, h2, r, hr, k⟩ hs
  by_cases dd : ∃ ks vs, d = .dct ks vs
  · obtain ⟨ks, vs, rfl⟩ := dd
    have hr : (match keyD e with | some k => getK (ks.zip vs) k | none => none) = some r := by
      cases e <;> exact hr
    split at hr
    · rename_i kk ek
      obtain ⟨b, kvs, rfl, g1, g2, g3⟩ := h1
      obtain ⟨w', q1, q2⟩ := (getK_zip (k := kk) g2 g3).1 r hr
      obtain rfl := key_rd ek h2
      cases rx
      obtain ⟨z, hd, ws, rel, dd⟩ := dk_rd I.hok g1
      refine tail_any dd.typeIs PySem.F.slot_dict_getitem.lookup (d_getItem hu I (.inl ⟨kvs, kk, g1, rfl, q1.symm⟩) ry fun u' s' I' r' => ⟨w', H, I', r', k _ H (Same.refl H) q2⟩) hs
    · cases hr
  have nd : ∀ ks vs, d ≠ .dct ks vs := fun ks vs z => dd ⟨ks, vs, z⟩
  cases d with
  | dct ks vs => exact absurd rfl (nd ks vs)
  | non => cases e <;> simp only [P.ap, ixD] at hr <;> cases hr
  | bl b => cases e <;> simp only [P.ap, ixD] at hr <;> cases hr
  | int b => cases e <;> simp only [P.ap, ixD] at hr <;> cases hr
  | str z => cases e <;> simp only [P.ap] at hr <;> try (cases hr; done)
             rename_i i
             cases h2
             exact ix_str_go I rx ry h1 hr k hs
  | tup z => cases e <;> simp only [P.ap] at hr <;> try (cases hr; done)
             rename_i i
             cases h2
             exact ix_tup_go I rx ry h1 hr k hs
  | lst z => cases e <;> simp only [P.ap] at hr <;> try (cases hr; done)
             rename_i i
             cases h2
             exact ix_lst_go I rx ry h1 hr k hs
/-- e[lo:hi] -/
theorem sl_cut : SlR X (fun x lo hi H Q => ∃ d, Rd H d x ∧ Got New H (cutD d lo hi) Q) := by
  intro pins s σ H x v vl vu lo hi sl Q I rx hs pl pu ⟨d, h, r, hr, k⟩
  cases d <;> simp only [cutD] at hr <;> try (cases hr; done)
  · rename_i z
    cases hr
    obtain ⟨rfl, hz⟩ := h
    have e : cutS (⟨z.toArray⟩ : Str) lo hi = ⟨(cutL z lo hi).toArray⟩ := by
      unfold cutS cutL
      rw [str_len]
    refine sl_str pins s σ H _ v vl vu lo hi sl Q I rx hs pl pu ⟨_, rfl, by rw [str_len]; exact hz, ?_⟩
    rw [e]
    refine k _ H (Same.refl H) ⟨rfl, ?_⟩
    unfold cutL
    rw [List.length_take, List.length_drop]
    have := hz
    omega
  · rename_i z
    cases hr
    obtain ⟨b, vs, rfl, g1, g2⟩ := h
    have l1 := g2.len
    have rr : ∀ H', Same H H' → RepL H' (cutL z lo hi) (cutV vs lo hi) := fun H' e => by
      unfold cutL cutV
      rw [l1]
      exact ((g2.drop _).take _).pers (Pers.of_same e)
    refine sl_tupA pins s σ H _ v vl vu lo hi sl Q I rx hs pl pu ⟨b, vs, rfl, SqT.of g1, fun w => ?_, fun _ p hp => ?_⟩
    · refine k _ H (Same.refl H) ⟨b, vs, rfl, g1, ?_⟩
      have q := rr H (Same.refl H)
      have e : cutV vs lo hi = vs := by
        unfold cutV
        rw [w.1, w.2]
        simp
      rw [e] at q
      exact q
    · exact k _ _ (same_upd hp) ⟨p, _, rfl, upd_same, rr _ (same_upd hp)⟩
  · rename_i z
    cases hr
    obtain ⟨b, vs, rfl, g1, g2⟩ := h
    have l1 := g2.len
    refine sl_list pins s σ H _ v vl vu lo hi sl Q I rx hs pl pu ⟨b, vs, rfl, .inl g1, fun p hp => ?_⟩
    refine k _ _ (same_upd hp) ⟨p, _, rfl, hp, upd_same, ?_⟩
    unfold cutL cutV
    rw [l1]
    exact ((g2.drop _).take _).pers (Pers.of_same (same_upd hp))
end
end Rf

set_option Elab.async false
set_option linter.all false
set_option maxRecDepth 100000
set_option maxHeartbeats 4000000
namespace Rf
open PySem PySem.Spec PyProof.Rows L2

theorem peOf {X : Cx} {e : Expr} {t t' : TE} (h : PE X e t) (i : ∀ σ H Q, t' σ H Q → t σ H Q) : PE X e t' := ⟨fun pins s σ H Q I w => h.run pins s σ H Q I (i σ H Q w)⟩
theorem ptOf {X : Cx} {e : Expr} {t t' : TT} (h : PT X e t) (i : ∀ σ H Q, t' σ H Q → t σ H Q) : PT X e t' := ⟨fun pins s σ H Q I w => h.run pins s σ H Q I (i σ H Q w)⟩
theorem paOf {X : Cx} {e : List Expr} {t t' : TA} (h : PA X e t) (i : ∀ σ H Q, t' σ H Q → t σ H Q) : PA X e t' := ⟨fun pos pins s σ H Q I w => h.run pos pins s σ H Q I (i σ H Q w)⟩

/-- a datum's truth -/
theorem truD {X : Cx} {pins : List (Addr × Obj)} {σ : L2.St} {H : Hp} {s : Shared} {d : D} {x : V} {v : Value} {b : Bool} {Q : Bool → Shared → Prop} (I : Inv X pins σ H s) (rx : RelV x v) (h : Rd H d x) (e : truth d = some b)
    (q : ∀ s', Inv X pins σ H s' → Q b s') : wpAny (model X.prog X.w) X.A (truthy v) Q X.xe s := by
  have go : TruV X.K x H b → wpAny (model X.prog X.w) X.A (truthy v) Q X.xe s := fun t => by
    refine wpAny_mono (tru_ok pins s σ H x v (fun k H' => k = b ∧ H' = H) I rx ⟨b, t, rfl, rfl⟩) ?_ fun _ _ z => z
    rintro k s' ⟨H', I', rfl, rfl⟩
    exact q s' I'
  cases d <;> simp only [truth, Option.some.injEq] at e <;> subst e
  · cases h; exact go rfl
  · cases h; exact go rfl
  · cases h; exact go rfl
  · rename_i z
    obtain ⟨rfl, hz⟩ := h
    refine go ⟨by rw [str_len]; exact hz, ?_⟩
    rw [str_len]
    cases z <;> simp
    omega
  · obtain ⟨a, vs, rfl, g, r⟩ := h
    refine go (.inr (.inl ⟨vs, SqT.of g, ?_⟩))
    have := r.len
    rename_i z
    cases z <;> cases vs <;> simp_all
  · obtain ⟨a, vs, rfl, g, r⟩ := h
    refine go (.inl ⟨vs, .inl g, ?_⟩)
    have := r.len
    rename_i z
    cases z <;> cases vs <;> simp_all
  · obtain ⟨a, kvs, rfl, g, k, r⟩ := h
    cases rx
    refine d_truth I g fun s' I' => ?_
    have := q s' I'
    rw [← k] at this
    cases kvs <;> simpa using this

section
variable {X : Cx} {T : Tbl} {XR : Hp → Nat → List D → Value → Option Addr → Prop} {W : WX}

theorem s_var {i : Nat} {x : Str} {pos : Pos} (hN : X.N[i]? = some x) (hv : Vis X.env.scope x) (hd : (x == ("__debug__" : Str)) = false) (hcd : (x == ("__classdict__" : Str)) = false) : PE X (.Name x pos) (den T XR W (.var i)) :=
  peOf (pe_var hN hv hd hcd) fun σ H Q ⟨F, st, I, h⟩ => by
    simp only [ev] at h
    split at h
    · rename_i d e
      obtain ⟨v, q1, q2⟩ := I.var e
      exact ⟨v, q1, h H (Pers.refl H) I v q2⟩
    · exact h.elim
theorem s_int {i : Int} {j : Nat} {pos : Pos} : PE X (.Constant (.int i) j pos) (den T XR W (.kint i)) := peOf pe_int fun σ H Q ⟨F, st, I, h⟩ => h H (Pers.refl H) I _ rfl
theorem s_bl {b : Bool} {j : Nat} {pos : Pos} : PE X (.Constant (.bool b) j pos) (den T XR W (.kbl b)) := peOf pe_bl fun σ H Q ⟨F, st, I, h⟩ => h H (Pers.refl H) I _ rfl
theorem s_non {j : Nat} {pos : Pos} : PE X (.Constant .none j pos) (den T XR W .knon) := peOf pe_non fun σ H Q ⟨F, st, I, h⟩ => h H (Pers.refl H) I _ rfl
theorem s_str {x : List Nat} {y : Str} {j : Nat} {pos : Pos} (e : y.cps.toList = x) (hz : x.length ≤ big) : PE X (.Constant (.str y) j pos) (den T XR W (.kstr x)) := by
  have ey : y = ⟨x.toArray⟩ := by rw [← e]
  subst ey
  exact peOf pe_str fun σ H Q ⟨F, st, I, h⟩ => h H (Pers.refl H) I _ ⟨rfl, by rw [sz_big]; exact hz⟩
/-- a module's constant -/
def scalV : D → Option V
  | .non => some .non
  | .bl b => some (.bl b)
  | .int i => some (.int i)
  | .str x => if x.length ≤ big then some (.str ⟨x.toArray⟩) else none
  | _ => none
theorem scalV_rep {H : Hp} {d : D} {v : V} (h : scalV d = some v) : Rep H d v := by
  cases d <;> simp only [scalV] at h <;> try (cases h; done)
  · cases h; rfl
  · cases h; rfl
  · cases h; rfl
  · split at h
    · rename_i hz
      cases h
      exact ⟨rfl, by rw [sz_big]; exact hz⟩
    · cases h
theorem s_glo {x : Str} {d : D} {v : V} {u : Value} {pos : Pos} (hg : Gl X x) (hm : X.mg x = some u) (hv : scalV d = some v) (r : RelV v u) (hd : (x == ("__debug__" : Str)) = false) : PE X (.Name x pos) (den T XR W (.glo x d)) :=
  peOf (pe_glob hg hm r hd) fun σ H Q ⟨F, st, I, h⟩ => h H (Pers.refl H) I _ (scalV_rep hv)

/-! ### and, or, not, a if c else b -/
variable {a b c : E} {ea eb ec : Expr} {rest : List Expr} {pos : Pos}
theorem s_and1 {op : BoolOp} (h : PE X eb (den T XR W b)) : PE X (.BoolOp op [eb] pos) (den T XR W b) := pe_one h
theorem s_and (ha : PE X ea (den T XR W a)) (hb : PE X (.BoolOp .And (eb :: rest) pos) (den T XR W b)) : PE X (.BoolOp .And (ea :: eb :: rest) pos) (den T XR W (.and a b)) :=
  peOf (pe_and ha hb) fun σ H Q ⟨F, st, I, h⟩ => by
    simp only [ev] at h
    refine ⟨F, st, I, h.bind fun d s1 H1 _ p I1 q v rv => ?_⟩
    cases d <;> try (exact q.elim)
    rename_i k _
    refine ⟨k, rv, ?_⟩
    cases k with
    | true => rw [if_pos rfl]; exact ⟨F, s1, I1, q⟩
    | false => rw [if_neg (by decide)]; exact q H1 (Pers.refl _) I1 _ rfl
theorem s_or (ha : PE X ea (den T XR W a)) (hb : PE X (.BoolOp .Or (eb :: rest) pos) (den T XR W b)) : PE X (.BoolOp .Or (ea :: eb :: rest) pos) (den T XR W (.or a b)) :=
  peOf (pe_or ha hb) fun σ H Q ⟨F, st, I, h⟩ => by
    simp only [ev] at h
    refine ⟨F, st, I, h.bind fun d s1 H1 _ p I1 q v rv => ?_⟩
    cases d <;> try (exact q.elim)
    rename_i k _
    refine ⟨k, rv, ?_⟩
    cases k with
    | true => rw [if_pos rfl]; exact q H1 (Pers.refl _) I1 _ rfl
    | false => rw [if_neg (by decide)]; exact ⟨F, s1, I1, q⟩
theorem s_not (ha : PE X ea (den T XR W a)) : PE X (.UnaryOp .Not ea pos) (den T XR W (.not a)) := by
  refine ⟨fun pins s σ H Q I0 ⟨F, st, I, h⟩ => ?_⟩
  simp only [ev] at h
  refine UnaryOp_ (thn (ha.run pins s σ H (fun x H1 => ∃ d k, Rd H1 d x ∧ truth d = some k ∧ Q (.bl (!k)) H1) I0 ⟨F, st, I, h.bind fun d s1 H1 _ p I1 q v rv => ?_⟩) fun v s1 ⟨x, H1, I1, r1, d, k, h1, h2, q1⟩ => ?_)
  · split at q
    · rename_i k e
      exact ⟨d, k, Rd.of rv, e, q H1 (Pers.refl _) I1 _ rfl⟩
    · exact q.elim
  · exact not_of (truD I1 r1 h1 h2 fun s' I' => ⟨.bl (!k), H1, I', rfl, q1⟩)
theorem s_ite (hc : PT X ec (denT T XR W c)) (ha : PE X ea (den T XR W a)) (hb : PE X eb (den T XR W b)) : PE X (.IfExp ec ea eb pos) (den T XR W (.ite c a b)) :=
  peOf (pe_ifExp hc ha hb) fun σ H Q ⟨F, st, I, h⟩ => by
    simp only [ev] at h
    refine ⟨F, st, I, h.bind fun d s1 H1 _ p I1 q => ?_⟩
    split at q
    · rename_i e; exact ⟨true, e, by dsimp only; rw [if_pos rfl]; exact ⟨F, s1, I1, q⟩⟩
    · rename_i e; exact ⟨false, e, by dsimp only; rw [if_neg (by decide)]; exact ⟨F, s1, I1, q⟩⟩
    · exact q.elim
/-! as tests -/
theorem t_and1 {op : BoolOp} (h : PT X eb (denT T XR W b)) : PW X (.BoolOp op [eb] pos) (denT T XR W b) := by
  cases op
  · exact pw_and1 h
  · exact pw_or1 h
theorem t_and (ha : PT X ea (denT T XR W a)) (hb : PW X (.BoolOp .And (eb :: rest) pos) (denT T XR W b)) : PW X (.BoolOp .And (ea :: eb :: rest) pos) (denT T XR W (.and a b)) := by
  refine ⟨fun wh pins s σ H Q I0 ⟨F, st, I, h⟩ => (pw_and ha hb).run wh pins s σ H Q I0 ?_⟩
  simp only [ev] at h
  refine ⟨F, st, I, h.bind fun d s1 H1 _ p I1 q => ?_⟩
  cases d <;> try (exact q.elim)
  rename_i k _
  refine ⟨k, rfl, ?_⟩
  cases k with
  | true => rw [if_pos rfl]; exact ⟨F, s1, I1, q⟩
  | false =>
    rw [if_neg (by decide)]
    obtain ⟨b', e, q'⟩ := q H1 (Pers.refl _) I1
    cases e
    exact q'
theorem t_or (ha : PT X ea (denT T XR W a)) (hb : PW X (.BoolOp .Or (eb :: rest) pos) (denT T XR W b)) : PW X (.BoolOp .Or (ea :: eb :: rest) pos) (denT T XR W (.or a b)) := by
  refine ⟨fun wh pins s σ H Q I0 ⟨F, st, I, h⟩ => (pw_or ha hb).run wh pins s σ H Q I0 ?_⟩
  simp only [ev] at h
  refine ⟨F, st, I, h.bind fun d s1 H1 _ p I1 q => ?_⟩
  cases d <;> try (exact q.elim)
  rename_i k _
  refine ⟨k, rfl, ?_⟩
  cases k with
  | true =>
    rw [if_pos rfl]
    obtain ⟨b', e, q'⟩ := q H1 (Pers.refl _) I1
    cases e
    exact q'
  | false => rw [if_neg (by decide)]; exact ⟨F, s1, I1, q⟩
theorem t_not (ha : PT X ea (denT T XR W a)) : PT X (.UnaryOp .Not ea pos) (denT T XR W (.not a)) :=
  ptOf (pt_not ha) fun σ H Q ⟨F, st, I, h⟩ => by
    simp only [ev] at h
    refine ⟨F, st, I, h.bind fun d s1 H1 _ p I1 q => ?_⟩
    split at q
    · rename_i k e
      obtain ⟨b', e', q'⟩ := q H1 (Pers.refl _) I1
      cases e'
      exact ⟨k, e, q'⟩
    · exact q.elim
theorem t_ite (hc : PT X ec (denT T XR W c)) (ha : PT X ea (denT T XR W a)) (hb : PT X eb (denT T XR W b)) : PT X (.IfExp ec ea eb pos) (denT T XR W (.ite c a b)) := by
  refine ⟨fun pins s σ H Q I0 ⟨F, st, I, h⟩ => ?_⟩
  simp only [ev] at h
  refine isTrue_IfExp (thn (hc.run pins s σ H (fun k H1 => if k = true then denT T XR W a σ H1 Q else denT T XR W b σ H1 Q) I0 ⟨F, st, I, h.bind fun d s1 H1 _ p I1 q => ?_⟩) fun k s1 ⟨H1, I1, q1⟩ => ?_)
  · split at q
    · rename_i e; exact ⟨true, e, by dsimp only; rw [if_pos rfl]; exact ⟨F, s1, I1, q⟩⟩
    · rename_i e; exact ⟨false, e, by dsimp only; rw [if_neg (by decide)]; exact ⟨F, s1, I1, q⟩⟩
    · exact q.elim
  · cases k with
    | true => exact ha.run pins s1 σ H1 Q I1 q1
    | false => exact hb.run pins s1 σ H1 Q I1 q1
/-- any expression whose test is its value's truth -/
theorem t_plain (ha : PE X ea (den T XR W a)) (he : ∀ whole, isTrue ea X.env whole = (do let v ← whole; standAt ea.pos; holding [v] (truthy v))) : PT X ea (denT T XR W a) := by
  refine ⟨fun pins s σ H Q I0 ⟨F, st, I, h⟩ => ?_⟩
  refine isTrue_plain (thn (ha.run pins s σ H (fun x H1 => ∃ d k, Rd H1 d x ∧ truth d = some k ∧ Q k H1) I0 ⟨F, st, I, h.mono fun d s1 H1 _ p I1 q v rv => ?_⟩) fun v s1 ⟨x, H1, I1, r1, d, k, h1, h2, q1⟩ => ?_) (he _)
  · obtain ⟨k, e, q⟩ := q
    exact ⟨d, k, Rd.of rv, e, q⟩
  · exact truD I1 r1 h1 h2 fun s' I' => ⟨H1, I', q1⟩

/-! ### operations -/
theorem SI.same {F : Fx} {σ : L2.St} {st : Sx} {H H' : Hp} (I : SI F σ st H) (e : Same H H') : SI F σ st H' := by
  have p := Pers.of_same e
  refine ⟨fun i x h => ?_, I.one, I.fresh, fun a o h n => e _ _ (I.keep a o h n), I.glen, fun k kd a h1 h2 => ?_, I.gone, fun q hq => ?_, I.hfr⟩
  · obtain ⟨y, h1, h2⟩ := I.slot i x h
    refine ⟨y, h1, ?_⟩
    cases x with
    | none => trivial
    | val d => obtain ⟨v, e1, e2⟩ := h2; exact ⟨v, e1, Rep.pers p _ _ e2⟩
    | own ds => obtain ⟨a, vs, e1, e2, e3⟩ := h2; exact ⟨a, vs, e1, e _ _ e2, RepL.pers p _ _ e3⟩
    | glb k => exact h2
  · obtain ⟨kvs, q1, q2, q3⟩ := I.glob k kd a h1 h2
    exact ⟨kvs, e _ _ q1, q2, RepL.pers p _ _ q3⟩
  · obtain ⟨vs, q1, q2⟩ := I.hid q hq
    exact ⟨vs, e _ _ q1, RepL.pers p _ _ q2⟩
/-- behind the arguments: the operation -/
theorem opDone {p : P} {es : List E} {σ : L2.St} {H : Hp} {Q : VK} (h : den T XR W (.prim p es) σ H Q) : tL T XR W es σ H fun vs H1 => ∃ ds, RdL H1 ds vs ∧ Got Old H1 (p.ap ds) Q := by
  obtain ⟨F, st, I, h⟩ := h
  simp only [ev] at h
  refine args es st H _ I (h.bind fun ds s1 H1 _ pp I1 q vs rv => ⟨ds, rv.rd, ?_⟩)
  unfold ofOpt at q
  split at q
  · rename_i d e
    exact ⟨d, e, fun v H' sm r => q H' (Pers.of_same sm) (I1.same sm) v r⟩
  · exact q.elim
theorem den_mono {σ : L2.St} {H : Hp} {Q Q' : VK} (h : den T XR W a σ H Q) (k : ∀ v H', Q v H' → Q' v H') : den T XR W a σ H Q' := by
  obtain ⟨F, st, I, h⟩ := h
  exact ⟨F, st, I, h.mono fun d s1 H1 _ p I1 q v rv => k v H1 (q v rv)⟩
theorem tE_mono {σ : L2.St} {H : Hp} {Q Q' : VK} (h : tE T XR W a σ H Q) (k : ∀ v H', Q v H' → Q' v H') : tE T XR W a σ H Q' := by
  unfold tE at h ⊢
  cases e : a.isOwn with
  | none => rw [e] at h; exact den_mono h k
  | some i =>
    rw [e] at h
    obtain ⟨v, q1, q2⟩ := h
    exact ⟨v, q1, k v H q2⟩
theorem tL_mono {σ : L2.St} : ∀ {es : List E} {H : Hp} {Q Q' : List V → Hp → Prop}, tL T XR W es σ H Q → (∀ v H', Q v H' → Q' v H') → tL T XR W es σ H Q'
  | [], H, Q, Q', h, k => k _ _ h
  | a :: as, H, Q, Q', h, k => tE_mono (h : tE T XR W a σ H _) fun v H' q => tL_mono q fun vs H2 q2 => k _ _ q2
theorem RdL.is1 {H : Hp} {ds : List D} {x : V} (h : RdL H ds [x]) : ∃ d, ds = [d] ∧ Rd H d x := by
  cases ds with
  | nil => simp only [RdL] at h; cases h
  | cons d ds =>
    obtain ⟨v, r, e, h1, h2⟩ := h
    cases e
    cases ds with
    | nil => exact ⟨d, rfl, h1⟩
    | cons e es => obtain ⟨_, _, e, _⟩ := h2; cases e
theorem RdL.is2 {H : Hp} {ds : List D} {x y : V} (h : RdL H ds [x, y]) : ∃ d e, ds = [d, e] ∧ Rd H d x ∧ Rd H e y := by
  cases ds with
  | nil => simp only [RdL] at h; cases h
  | cons d ds =>
    obtain ⟨v, r, e, h1, h2⟩ := h
    cases e
    obtain ⟨e, rfl, h3⟩ := RdL.is1 h2
    exact ⟨d, e, rfl, h1, h3⟩
theorem op2 {p : P} {σ : L2.St} {H : Hp} {Q : VK} (h : den T XR W (.prim p [a, b]) σ H Q) : tE T XR W a σ H fun x H1 => tE T XR W b σ H1 fun y H2 => r2 Old p x y H2 Q := by
  have g := opDone h
  exact tE_mono (g : tE T XR W a σ H _) fun x H1 g1 => tE_mono (g1 : tE T XR W b σ H1 _) fun y H2 g2 => by
    obtain ⟨ds, r, g⟩ : ∃ ds, RdL H2 ds [x, y] ∧ Got Old H2 (p.ap ds) Q := g2
    obtain ⟨d, e, rfl, h1, h2⟩ := r.is2
    exact ⟨d, e, h1, h2, g⟩
theorem op1 {p : P} {σ : L2.St} {H : Hp} {Q : VK} (h : den T XR W (.prim p [a]) σ H Q) : tE T XR W a σ H fun x H1 => ∃ d, Rd H1 d x ∧ Got Old H1 (p.ap [d]) Q := by
  have g := opDone h
  exact tE_mono (g : tE T XR W a σ H _) fun x H1 g1 => by
    obtain ⟨ds, r, g⟩ : ∃ ds, RdL H1 ds [x] ∧ Got Old H1 (p.ap ds) Q := g1
    obtain ⟨d, rfl, h1⟩ := r.is1
    exact ⟨d, h1, g⟩
theorem s_bin {p : P} {op : Operator} (ho : OpR X (binaryOp op) (r2 New p)) (ha : PE X ea (tE T XR W a)) (hb : PE X eb (tE T XR W b)) : PE X (.BinOp ea op eb pos) (den T XR W (.prim p [a, b])) :=
  peOf (pe_op (OpR.froze ho) ha hb) fun σ H Q h => op2 h
theorem s_cmp {p : P} {op : CmpOp} (ho : OpR X (compareOp op) (r2 New p)) (ha : PE X ea (tE T XR W a)) (hb : PE X eb (tE T XR W b)) (hm : behindInMarks op eb = false) : PE X (.Compare ea [op] [eb] pos) (den T XR W (.prim p [a, b])) :=
  peOf (pe_cmpR (OpR.froze ho) ha hb hm) fun σ H Q h => op2 h
theorem den_T {m : E} {σ : L2.St} {H : Hp} {Q : Bool → Hp → Prop} (h : denT T XR W m σ H Q) : den T XR W m σ H fun v H' => ∃ d k, Rep H' d v ∧ truth d = some k ∧ Q k H' := by
  obtain ⟨F, st, I, h⟩ := h
  refine ⟨F, st, I, h.mono fun d s1 H1 _ p I1 q v rv => ?_⟩
  obtain ⟨k, e, q⟩ := q
  exact ⟨d, k, rv, e, q⟩
/-- the outcome of a comparison is a bool -/
theorem t_cmp {p : P} {op : CmpOp} (hp : ∀ ds r, p.ap ds = some r → ∃ k, r = .bl k) (ho : OpR X (compareOp op) (r2 New p)) (ha : PE X ea (tE T XR W a)) (hb : PE X eb (tE T XR W b)) (hm : behindInMarks op eb = false) : PT X (.Compare ea [op] [eb] pos) (denT T XR W (.prim p [a, b])) :=
  ptOf (pt_cmpR (OpR.froze ho) ha hb hm) fun σ H Q h => by
    have g := op2 (den_T h)
    refine tE_mono g fun x H1 g1 => tE_mono g1 fun y H2 ⟨d, e, h1, h2, r, hr, k⟩ => ⟨d, e, h1, h2, r, hr, fun v H' sm rv => ?_⟩
    obtain ⟨k', rfl⟩ := hp _ _ hr
    obtain ⟨d', k2, q1, q2, q3⟩ := k v H' sm rv
    cases rv
    cases d' <;> simp only [Rep] at q1 <;> try (cases q1; done)
    · cases q1; cases q2; exact ⟨_, rfl, q3⟩
    · exact absurd q1.1 (by intro z; cases z)
    · obtain ⟨_, _, z, _⟩ := q1; cases z
    · obtain ⟨_, _, _, z, _⟩ := q1; cases z
    · obtain ⟨_, _, _, z, _⟩ := q1; cases z
theorem s_neg (ha : PE X ea (tE T XR W a)) : PE X (.UnaryOp .USub ea pos) (den T XR W (.prim .neg [a])) := by
  refine ⟨fun pins s σ H Q I h => ?_⟩
  refine UnaryOp_ (thn (ha.run pins s σ H _ I (op1 h)) fun v s1 ⟨x, H1, I1, r1, d, h1, g⟩ => ?_)
  exact EP.froze (u := v) g fun Q' g' => o_neg pins s1 σ H1 x v Q' I1 r1 ⟨d, h1, g'⟩
end
end Rf

set_option Elab.async false
set_option linter.all false
set_option maxRecDepth 100000
set_option maxHeartbeats 4000000
namespace Rf
open PySem PySem.Spec PyProof.Rows L2

theorem Post.keep {XR : Hp → Nat → List D → Value → Option Addr → Prop} {W : WX} {F : Fx} {σ : L2.St} {α : Type} {H : Hp} {r : Res α} {R R' : α → Hp → Prop} (h : Post XR W F σ H r R)
    (k : ∀ a st H', r = .ok a st → Pers H H' → SI F σ st H' → (∀ H2, Pers H' H2 → SI F σ st H2 → R a H2) → R' a H') : Post XR W F σ H r R' := by
  cases r with
  | ok a st => exact fun H' p I => k a st H' rfl p I fun H2 p2 I2 => h H2 (p.trans p2) I2
  | exc c fs st => exact h
  | bad => exact h
/-- the reading of an expression that makes what it hands back: a list that it made is open still -/
def denN (T : Tbl) (XR : Hp → Nat → List D → Value → Option Addr → Prop) (W : WX) (m : E) : TE := fun σ H Q => ∃ F st, SI F σ st H ∧ Post XR W F σ H (ev T m st) fun d H1 => ∀ v H', Same H1 H' → New H1 H' d v → Q v H'
section
variable {X : Cx} {T : Tbl} {XR : Hp → Nat → List D → Value → Option Addr → Prop} {W : WX} {a b c m : E} {ea eb ec e : Expr} {pos : Pos}
theorem n_froze (h : PE X e (denN T XR W m)) : PE X e (den T XR W m) := by
  refine ⟨fun pins s σ H Q I0 ⟨F, st, I, g⟩ => ?_⟩
  refine thn (h.run pins s σ H (fun v H' => ∃ d H1, Same H1 H' ∧ New H1 H' d v ∧ ∀ v H2, Same H1 H2 → Rep H2 d v → Q v H2) I0 ⟨F, st, I, g.keep fun d s1 H1 _ p I1 q v H' sm nw => ?_⟩) ?_
  · exact ⟨d, H1, sm, nw, fun v H2 sm2 r => q H2 (Pers.of_same sm2) (I1.same sm2) v r⟩
  · rintro u s' ⟨v, H', I', rv, d, H1, sm, nw, k⟩
    obtain ⟨H2, I2, r2, e2⟩ := frozen I' nw sm
    exact ⟨v, H2, I2, rv, k v H2 e2 r2⟩
/-- an old value is also as a new one, if it is no list -/
theorem den_of_N {σ : L2.St} {H : Hp} {Q : VK} (h : denN T XR W m σ H Q) : ∃ F st, SI F σ st H ∧ Post XR W F σ H (ev T m st) fun d H1 => ∀ v H', Same H1 H' → New H1 H' d v → Q v H' := h
theorem opN {p : P} {es : List E} {σ : L2.St} {H : Hp} {Q : VK} (h : denN T XR W (.prim p es) σ H Q) : tL T XR W es σ H fun vs H1 => ∃ ds, RdL H1 ds vs ∧ Got New H1 (p.ap ds) Q := by
  obtain ⟨F, st, I, h⟩ := h
  simp only [ev] at h
  refine args es st H _ I (h.bind fun ds s1 H1 _ pp I1 q vs rv => ⟨ds, rv.rd, ?_⟩)
  unfold ofOpt at q
  split at q
  · rename_i d e
    exact ⟨d, e, fun v H' sm r => q H1 (Pers.refl _) I1 v H' sm r⟩
  · exact q.elim
theorem opN2 {p : P} {σ : L2.St} {H : Hp} {Q : VK} (h : denN T XR W (.prim p [a, b]) σ H Q) : tE T XR W a σ H fun x H1 => tE T XR W b σ H1 fun y H2 => r2 New p x y H2 Q := by
  have g := opN h
  exact tE_mono (g : tE T XR W a σ H _) fun x H1 g1 => tE_mono (g1 : tE T XR W b σ H1 _) fun y H2 g2 => by
    obtain ⟨ds, r, g⟩ : ∃ ds, RdL H2 ds [x, y] ∧ Got New H2 (p.ap ds) Q := g2
    obtain ⟨d, e, rfl, h1, h2⟩ := r.is2
    exact ⟨d, e, h1, h2, g⟩
theorem opN1 {p : P} {σ : L2.St} {H : Hp} {Q : VK} (h : denN T XR W (.prim p [a]) σ H Q) : tE T XR W a σ H fun x H1 => ∃ d, Rd H1 d x ∧ Got New H1 (p.ap [d]) Q := by
  have g := opN h
  exact tE_mono (g : tE T XR W a σ H _) fun x H1 g1 => by
    obtain ⟨ds, r, g⟩ : ∃ ds, RdL H1 ds [x] ∧ Got New H1 (p.ap ds) Q := g1
    obtain ⟨d, rfl, h1⟩ := r.is1
    exact ⟨d, h1, g⟩
theorem n_bin {p : P} {op : Operator} (ho : OpR X (binaryOp op) (r2 New p)) (ha : PE X ea (tE T XR W a)) (hb : PE X eb (tE T XR W b)) : PE X (.BinOp ea op eb pos) (denN T XR W (.prim p [a, b])) :=
  peOf (pe_op ho ha hb) fun σ H Q h => opN2 h
theorem s_isN {j : Nat} {pos' : Pos} (ha : PE X ea (tE T XR W a)) : PE X (.Compare ea [.Is] [.Constant .none j pos'] pos) (den T XR W (.prim .isNone [a])) := by
  refine peOf (pe_cmpR o_isN ha pe_non (nomark _)) fun σ H Q h => ?_
  refine tE_mono (op1 h) fun x H1 ⟨d, h1, r, hr, k⟩ => ⟨rfl, d, h1, r, hr, fun v H' sm n => k v H' sm ?_⟩
  simp only [P.ap] at hr; cases hr; exact n
theorem s_notN {j : Nat} {pos' : Pos} (ha : PE X ea (tE T XR W a)) : PE X (.Compare ea [.IsNot] [.Constant .none j pos'] pos) (den T XR W (.prim .notNone [a])) := by
  refine peOf (pe_cmpR o_notN ha pe_non (nomark _)) fun σ H Q h => ?_
  refine tE_mono (op1 h) fun x H1 ⟨d, h1, r, hr, k⟩ => ⟨rfl, d, h1, r, hr, fun v H' sm n => k v H' sm ?_⟩
  simp only [P.ap] at hr; cases hr; exact n
/-- a value that is a bool -/
theorem bl_of {H : Hp} {d : D} {k : Bool} (h : Rep H d (.bl k)) : d = .bl k := by
  cases d <;> simp only [Rep] at h
  · cases h
  · cases h; rfl
  · cases h
  · exact absurd h.1 (by intro z; cases z)
  · obtain ⟨_, _, z, _⟩ := h; cases z
  · obtain ⟨_, _, _, z, _⟩ := h; cases z
  · obtain ⟨_, _, _, z, _⟩ := h; cases z
theorem tT {p : P} {es : List E} {σ : L2.St} {H : Hp} {Q : Bool → Hp → Prop} (hp : ∀ ds r, p.ap ds = some r → ∃ k, r = .bl k) (h : denT T XR W (.prim p es) σ H Q) : den T XR W (.prim p es) σ H fun v H' => ∃ k, v = .bl k ∧ Q k H' := by
  obtain ⟨F, st, I, h⟩ := h
  refine ⟨F, st, I, ?_⟩
  simp only [ev] at h ⊢
  cases q : evs T es st with
  | bad => rw [q] at h; exact h
  | exc c fs s1 => rw [q] at h; exact h
  | ok ds s1 =>
    rw [q] at h
    simp only [Res.bind, ofOpt] at h ⊢
    cases e : p.ap ds with
    | none => rw [e] at h; exact h
    | some r =>
      rw [e] at h
      obtain ⟨k, rfl⟩ := hp _ _ e
      intro H1 p1 I1 v rv
      obtain ⟨k', e', q'⟩ := h H1 p1 I1
      cases e'
      exact ⟨k, rv, q'⟩
theorem t_isN {j : Nat} {pos' : Pos} (ha : PE X ea (tE T XR W a)) : PT X (.Compare ea [.Is] [.Constant .none j pos'] pos) (denT T XR W (.prim .isNone [a])) := by
  refine ptOf (pt_cmpR o_isN ha pe_non (nomark _)) fun σ H Q h => ?_
  have h := tT (p := .isNone) (fun ds r e => by unfold P.ap at e; split at e <;> first | (cases e; exact ⟨_, rfl⟩) | contradiction) h
  refine tE_mono (op1 h) fun x H1 ⟨d, h1, r, hr, k⟩ => ⟨rfl, d, h1, r, hr, fun v H' sm n => k v H' sm ?_⟩
  simp only [P.ap] at hr; cases hr; exact n
theorem t_notN {j : Nat} {pos' : Pos} (ha : PE X ea (tE T XR W a)) : PT X (.Compare ea [.IsNot] [.Constant .none j pos'] pos) (denT T XR W (.prim .notNone [a])) := by
  refine ptOf (pt_cmpR o_notN ha pe_non (nomark _)) fun σ H Q h => ?_
  have h := tT (p := .notNone) (fun ds r e => by unfold P.ap at e; split at e <;> first | (cases e; exact ⟨_, rfl⟩) | contradiction) h
  refine tE_mono (op1 h) fun x H1 ⟨d, h1, r, hr, k⟩ => ⟨rfl, d, h1, r, hr, fun v H' sm n => k v H' sm ?_⟩
  simp only [P.ap] at hr; cases hr; exact n
end
end Rf

set_option Elab.async false
set_option linter.all false
set_option maxRecDepth 100000
set_option maxHeartbeats 4000000
namespace Rf
open PySem PySem.Spec PyProof.Rows L2

section
variable {X : Cx}
theorem RdL.three {H : Hp} {d e f : D} {xs : List V} (h : RdL H [d, e, f] xs) : ∃ x y z, xs = [x, y, z] ∧ Rd H d x ∧ Rd H e y ∧ Rd H f z := by
  obtain ⟨v, r, rfl, h1, h2⟩ := h
  obtain ⟨y, z, rfl, h3, h4⟩ := RdL.two h2
  exact ⟨v, y, z, rfl, h1, h3, h4⟩
theorem str_eta (x : Str) : (⟨x.cps.toList.toArray⟩ : Str) = x := by cases x; simp
theorem c_repr (hu : X.A.units + 100 < cLine) (hg : X.A.guards = some []) : CallR X (.builtin "repr") (rc New .repr) := by
  intro pins s σ H xs us Q I r ⟨ds, h1, d, hr, k⟩
  cases ds with
  | nil => simp only [P.ap] at hr; cases hr
  | cons a as =>
    cases as with
    | cons b bs => simp only [P.ap] at hr; cases hr
    | nil =>
      obtain ⟨x, rfl, h⟩ := h1.one
      simp only [P.ap, reprD] at hr
      split at hr
      rotate_left
      · cases hr
      rename_i hc
      simp only [Bool.and_eq_true, decide_eq_true_eq] at hc
      obtain ⟨⟨⟨c1, c2⟩, c3⟩, c4⟩ := hc
      cases hr
      have zb := sz_big
      have dp := rd_dp (K := X.K) h c1
      obtain ⟨u, rfl, ru⟩ := vals1 r
      obtain ⟨as, rd⟩ := Dp.reads I _ x u dp ru
      have fin : Q (.str (toP a).shown) H := k _ H (Same.refl H) ⟨by rw [str_eta], by rw [Array.length_toList]; show (toP a).shown.length ≤ _; omega⟩
      have ok : ∀ {t : Tok} {s' : Shared}, Inv X pins σ H s' → EP X pins σ Q (.str (toP a).shown t) s' := fun I' => ⟨.str _, H, I', ⟨_, rfl⟩, fin⟩
      cases a with
      | non =>
        obtain rfl : x = .non := h
        obtain rfl : u = .none := ru
        exact PySem.P.repr_of_none (ok (I.tok _))
      | bl b =>
        obtain rfl : x = .bl b := h
        obtain rfl : u = .bool b := ru
        have ok2 : ∀ {t : Tok} {s' : Shared}, Inv X pins σ H s' → EP X pins σ Q (.str (if b then "True" else "False") t) s' := ok
        exact PySem.P.repr_of_bool (ok2 (I.tok _))
      | int i =>
        obtain rfl : x = .int i := h
        obtain ⟨t, rfl⟩ := ru
        exact PySem.P.repr_of_int (by simpa [toP, PyData.showable] using c2) (ok (I.tok _))
      | str z =>
        obtain ⟨rfl, _⟩ := h
        obtain ⟨t, rfl⟩ := ru
        exact PySem.P.repr_of_str (ok (I.tok _)) (by show (reprText _).length ≤ _; have : (reprText (⟨z.toArray⟩ : Str)).length ≤ big := c4; omega)
      | tup z =>
        obtain ⟨b, vs, rfl, _⟩ := h
        obtain rfl : u = .ref b := ru
        exact PySem.repr_of_reads' rd c2 (PyData.noDict_hsm (PyData.hasDict_of_canLay _ c1)) hg (by omega) (fun _ _ e => e) (fun h' t tk e => ok (I.kept (t' := tk) e)) (by omega)
      | lst z =>
        obtain ⟨b, vs, rfl, _⟩ := h
        obtain rfl : u = .ref b := ru
        exact PySem.repr_of_reads' rd c2 (PyData.noDict_hsm (PyData.hasDict_of_canLay _ c1)) hg (by omega) (fun _ _ e => e) (fun h' t tk e => ok (I.kept (t' := tk) e)) (by omega)
      | dct ks vs => simp [toP, PyData.canLay0] at c1
theorem c_str : CallR X (.type "str") (rc New .str) := by
  intro pins s σ H xs us Q I r ⟨ds, h1, d, hr, k⟩
  cases ds with
  | nil => simp only [P.ap] at hr; cases hr
  | cons a as =>
    cases as with
    | cons b bs => cases a <;> simp only [P.ap] at hr <;> cases hr
    | nil =>
      obtain ⟨x, rfl, h⟩ := h1.one
      obtain ⟨u, rfl, ru⟩ := vals1 r
      have zb := sz_big
      have hb : (big : Nat) = 16777216 := rfl
      cases a <;> simp only [P.ap] at hr <;> try (cases hr; done)
      · rename_i b
        cases hr
        obtain rfl : x = .bl b := h
        obtain rfl : u = .bool b := ru
        refine PySem.P.str_of_bool ⟨.str _, H, I.tok _, ⟨_, rfl⟩, ?_⟩
        exact k _ H (Same.refl H) (by cases b <;> exact ⟨rfl, by rw [sz_big]; decide⟩)
      · rename_i i
        split at hr
        · rename_i hz
          cases hr
          obtain rfl : x = .int i := h
          obtain ⟨t, rfl⟩ := ru
          refine PySem.P.str_of_int hz ⟨.str _, H, I.tok _, ⟨_, rfl⟩, k _ H (Same.refl H) ⟨(congrArg V.str (str_eta _)).symm, ?_⟩⟩
          rw [Array.length_toList]
          exact PySem.int_text_fits hz
        · cases hr
      · rename_i z
        cases hr
        obtain ⟨rfl, hz⟩ := h
        obtain ⟨t, rfl⟩ := ru
        exact PySem.P.str_of_str ⟨.str ⟨z.toArray⟩, H, I, ⟨t, rfl⟩, k _ H (Same.refl H) ⟨rfl, hz⟩⟩
theorem c_abs : CallR X (.builtin "abs") (rc New .abs) := by
  intro pins s σ H xs us Q I r ⟨ds, h1, d, hr, k⟩
  cases ds with
  | nil => simp only [P.ap] at hr; cases hr
  | cons a as =>
    cases as with
    | cons b bs => cases a <;> simp only [P.ap] at hr <;> cases hr
    | nil =>
      obtain ⟨x, rfl, h⟩ := h1.one
      cases a <;> simp only [P.ap] at hr <;> try (cases hr; done)
      cases hr
      exact call_abs pins s σ H _ us Q I r ⟨_, congrArg (fun v => [v]) h, k _ H (Same.refl H) rfl⟩
theorem nuMin2_int (i j : Int) : nuMin2 (.int i) (.int j) = some (.int (min2 i j)) := by
  unfold nuMin2 min2
  show (some (decide (j < i))).map _ = _
  by_cases h : j < i <;> simp [h]
theorem nuMax2_int (i j : Int) : nuMax2 (.int i) (.int j) = some (.int (max2 i j)) := by
  unfold nuMax2 max2
  show (some (decide (i < j))).map _ = _
  by_cases h : i < j <;> simp [h]
theorem c_min (hc : X.calm = true) : CallR X (.builtin "min") (rc New .min) := by
  intro pins s σ H xs us Q I r ⟨ds, h1, d, hr, k⟩
  rcases ds with _ | ⟨a, _ | ⟨b, _ | ⟨c, _ | ⟨e, es⟩⟩⟩⟩
  · simp only [P.ap] at hr; cases hr
  · cases a <;> simp only [P.ap] at hr <;> cases hr
  · cases a <;> try (simp only [P.ap] at hr; cases hr; done)
    cases b <;> simp only [P.ap] at hr <;> try (cases hr; done)
    cases hr
    obtain ⟨x, y, rfl, h2, h3⟩ := h1.two
    cases h2; cases h3
    exact call_min2 hc pins s σ H _ us Q I r ⟨_, _, rfl, k _ H (Same.refl H) rfl⟩
  · cases a <;> try (simp only [P.ap] at hr; cases hr; done)
    cases b <;> try (simp only [P.ap] at hr; cases hr; done)
    cases c <;> simp only [P.ap] at hr <;> try (cases hr; done)
    cases hr
    obtain ⟨x, y, z, rfl, h2, h3, h4⟩ := h1.three
    cases h2; cases h3; cases h4
    exact call_min3Nu hc pins s σ H _ us Q I r ⟨_, _, _, _, rfl, by unfold nuMin3; rw [nuMin2_int]; exact nuMin2_int _ _, k _ H (Same.refl H) rfl⟩
  · simp only [P.ap] at hr; cases hr
theorem c_max (hc : X.calm = true) : CallR X (.builtin "max") (rc New .max) := by
  intro pins s σ H xs us Q I r ⟨ds, h1, d, hr, k⟩
  rcases ds with _ | ⟨a, _ | ⟨b, _ | ⟨c, _ | ⟨e, es⟩⟩⟩⟩
  · simp only [P.ap] at hr; cases hr
  · cases a <;> simp only [P.ap] at hr <;> cases hr
  · cases a <;> try (simp only [P.ap] at hr; cases hr; done)
    cases b <;> simp only [P.ap] at hr <;> try (cases hr; done)
    cases hr
    obtain ⟨x, y, rfl, h2, h3⟩ := h1.two
    cases h2; cases h3
    exact call_max2 hc pins s σ H _ us Q I r ⟨_, _, rfl, k _ H (Same.refl H) rfl⟩
  · cases a <;> try (simp only [P.ap] at hr; cases hr; done)
    cases b <;> try (simp only [P.ap] at hr; cases hr; done)
    cases c <;> simp only [P.ap] at hr <;> try (cases hr; done)
    cases hr
    obtain ⟨x, y, z, rfl, h2, h3, h4⟩ := h1.three
    cases h2; cases h3; cases h4
    exact call_max3Nu hc pins s σ H _ us Q I r ⟨_, _, _, _, rfl, by unfold nuMax3; rw [nuMax2_int]; exact nuMax2_int _ _, k _ H (Same.refl H) rfl⟩
  · simp only [P.ap] at hr; cases hr
end
end Rf

set_option Elab.async false
set_option linter.all false
set_option maxRecDepth 100000
set_option maxHeartbeats 4000000
namespace Rf
open PySem PySem.Spec PyProof.Rows L2 PySem.W

section
variable {X : Cx}
theorem alike_of {xs : List D} (h : alikeL xs = true) : AllAlike (xs.map toP) := by
  unfold alikeL at h
  simp only [List.all_eq_true] at h
  intro d hd d' hd'
  obtain ⟨a, ha, rfl⟩ := List.mem_map.mp hd
  obtain ⟨b, hb, rfl⟩ := List.mem_map.mp hd'
  exact h a ha b hb
theorem sortable_of {xs : List D} (h : (xs.all isTupC || xs.all notTupNon) = true) : Sortable (xs.map toP) := by
  rw [Bool.or_eq_true] at h
  rcases h with h | h
  · left
    intro d hd
    obtain ⟨a, ha, rfl⟩ := List.mem_map.mp hd
    have := List.all_eq_true.mp h a ha
    unfold isTupC at this
    split at this
    · rename_i y ys
      exact ⟨toP y, toPL ys, by simp only [toP, toPL]⟩
    · cases this
  · right
    intro d hd
    obtain ⟨a, ha, rfl⟩ := List.mem_map.mp hd
    have := List.all_eq_true.mp h a ha
    cases a <;> simp only [notTupNon] at this <;> simp [toP] <;> cases this
/-- data, its value in the heap, and the object -/
theorem each_of {pins : List (Addr × Obj)} {σ : L2.St} {H : Hp} {s : Shared} (I : Inv X pins σ H s) : ∀ {xs : List D} {vs : List V} {us : List Value}, RepL H xs vs → Vals vs us → (∀ a ∈ xs, (toP a).canLay0 = true) →
    EachIs (fun u (p : D × V) => RelV p.2 u) us (xs.zip vs) ∧ EachIs (fun u (p : D × V) => ∃ as, Reads s.heap u (toP p.1) as) us (xs.zip vs)
  | [], vs, us, r, rv, _ => by
    simp only [RepL] at r
    subst r
    cases rv
    exact ⟨.nil, .nil⟩
  | a :: xs, vs, us, r, rv, c => by
    simp only [RepL] at r
    obtain ⟨v, r', rfl, h1, h2⟩ := r
    cases rv with
    | cons r1 r2 =>
      obtain ⟨i1, i2⟩ := each_of I h2 r2 fun b hb => c b (List.mem_cons_of_mem _ hb)
      have dp := rd_dp (K := X.K) (Rd.of h1) (c a (by simp))
      exact ⟨.cons r1 i1, .cons (Dp.reads I _ v _ dp r1) i2⟩
theorem each_vals : ∀ {ps : List (D × V)} {us : List Value}, EachIs (fun u (p : D × V) => RelV p.2 u) us ps → Vals (ps.map (·.2)) us
  | [], _, h => by cases h; exact .nil
  | p :: ps, _, h => by cases h with | cons h1 h2 => exact .cons h1 (each_vals h2)
theorem repL_all {H : Hp} : ∀ {ps : List (D × V)}, (∀ p ∈ ps, Rep H p.1 p.2) → RepL H (ps.map (·.1)) (ps.map (·.2))
  | [], _ => by simp [RepL]
  | p :: ps, h => by
    simp only [List.map_cons, RepL]
    exact ⟨_, _, rfl, h p (by simp), repL_all fun q hq => h q (List.mem_cons_of_mem _ hq)⟩
theorem zip_rep {H : Hp} : ∀ {xs : List D} {vs : List V}, RepL H xs vs → ∀ p ∈ xs.zip vs, Rep H p.1 p.2
  | [], _, _, p, h => by simp at h
  | a :: xs, vs, r, p, h => by
    simp only [RepL] at r
    obtain ⟨v, r', rfl, h1, h2⟩ := r
    rw [List.zip_cons_cons] at h
    rcases List.mem_cons.mp h with rfl | h
    · exact h1
    · exact zip_rep h2 p h
theorem c_sorted (hu : X.A.units + 100 < cLine) : CallR X (.builtin "sorted") (rc New .sorted) := by
  intro pins s σ H xs us Q I r ⟨ds, h1, d, hr, k⟩
  cases ds with
  | nil => simp only [P.ap] at hr; cases hr
  | cons a as =>
    cases as with
    | cons b bs => cases a <;> simp only [P.ap] at hr <;> cases hr
    | nil =>
      obtain ⟨x, rfl, h⟩ := h1.one
      cases a <;> simp only [P.ap] at hr <;> try (cases hr; done)
      rename_i z
      obtain ⟨b, vs, rfl, g1, g2⟩ := h
      unfold sortD at hr
      split at hr
      rotate_left
      · cases hr
      rename_i hc
      simp only [Bool.and_eq_true, decide_eq_true_eq, List.all_eq_true] at hc
      obtain ⟨⟨⟨c1, c2⟩, c3⟩, c4⟩ := hc
      cases hr
      obtain ⟨u, rfl, ru⟩ := vals1 r
      obtain rfl : u = .ref b := ru
      obtain ⟨its, rv, pl, hz⟩ := I.list (X := X) (show SqL X.K H b vs from .inl g1)
      obtain ⟨e1, e2⟩ := each_of I g2 rv fun a ha => (c4 a ha).1
      have lz : (z.zip vs).length = z.length := by rw [List.length_zip, g2.len]; omega
      have zb := sz_big
      have mf : ((z.zip vs).map fun p => toP p.1) = z.map toP := by
        rw [show (fun p : D × V => toP p.1) = toP ∘ Prod.fst from rfl, ← List.map_map, List.map_fst_zip (by have := g2.len; omega)]
      refine sorted_data (bs := z.zip vs) (enc := fun p => toP p.1) (R := fun u p => RelV p.2 u) pl.isList e1 e2 (by rw [mf]; exact alike_of c1) (by rw [mf]; exact sortable_of c2) (by rw [lz]; omega) (fun p hp => ?_) fun out ol eo => ?_
      · have := c4 p.1 (List.of_mem_zip (a := p.1) (b := p.2) hp).1
        have := this.2
        omega
      · have hv := each_vals eo
        have hm : ((z.zip vs).mergeSort (dataLe false fun p => toP p.1)).map (·.1) = z.mergeSort (dataLe false toP) := by
          rw [List.map_mergeSort (r := dataLe false fun p : D × V => toP p.1) (s := dataLe false toP) (f := fun p : D × V => p.1) (fun _ _ _ _ => rfl), List.map_fst_zip (by have := g2.len; omega)]
        have hp : H (s.heap.objs.size + 1) = none := I.hok.fresh (by omega)
        obtain ⟨ep, he⟩ := PyProof.Rows.sortedAll_at (h := s.heap) (vs := its) (out := out.toArray)
        have sm := same_upd (o := .lst (((z.zip vs).mergeSort (dataLe false fun p => toP p.1)).map (·.2))) hp
        have lo : (((z.zip vs).mergeSort (dataLe false fun p => toP p.1)).map (·.2)).length ≤ sizeLine := by
          rw [List.length_map, List.length_mergeSort, lz]; omega
        refine ⟨.ref _, _, I.laid (t' := s.toks) (fun _ _ q => PyProof.Rows.sortedAll_old q) (Nat.le_succ _) (o := .lst _) ⟨lo, out, ep, hv, ?_⟩, rfl, k _ _ sm ⟨_, _, rfl, hp, upd_same, ?_⟩⟩
        · exact he
        · rw [← hm]
          refine RepL.pers (Pers.of_same sm) _ _ (repL_all fun p hp => zip_rep g2 p ?_)
          exact List.mem_mergeSort.mp hp

/-- the pairs of a list of pairs -/
theorem pairs_run {H : Hp} : ∀ {xs : List D} {g : Gd} {vs : List V}, pairsD xs = some g → RepL H xs vs → ∃ (ps : List Addr) (kvs : List (Key × V)), vs = ps.map V.ref ∧ Paired (fun p (kv : Key × V) => SqT X.K H p [kV kv.1, kv.2]) ps kvs ∧ kvs.map (·.1) = g.map (·.1) ∧ RepL H (g.map (·.2)) (kvs.map (·.2))
  | [], g, vs, e, r => by
    simp only [pairsD] at e
    cases e
    simp only [RepL] at r
    subst r
    exact ⟨[], [], rfl, .nil, rfl, by simp [RepL]⟩
  | x :: xs, g, vs, e, r => by
    simp only [RepL] at r
    obtain ⟨v, r', rfl, h1, h2⟩ := r
    cases x <;> try (simp only [pairsD] at e; cases e; done)
    rename_i ys
    rcases ys with _ | ⟨a, _ | ⟨b, _ | ⟨c, ys⟩⟩⟩ <;> try (simp only [pairsD] at e; cases e; done)
    simp only [pairsD] at e
    cases ek : keyD a with
    | none => rw [ek] at e; cases e
    | some k =>
      cases eg : pairsD xs with
      | none => rw [ek, eg] at e; cases e
      | some g2 =>
        rw [ek, eg] at e
        cases e
        obtain ⟨ps, kvs, rfl, i1, i2, i3⟩ := pairs_run eg h2
        simp only [Rep, RepL] at h1
        obtain ⟨p, ws, rfl, w1, va, r1, rfl, w2, vb, r2, rfl, w3, rfl⟩ := h1
        obtain rfl := key_rd ek (Rd.of w2)
        refine ⟨p :: ps, (k, vb) :: kvs, rfl, .cons (SqT.of w1) i1, by simp [i2], ?_⟩
        simp only [List.map_cons, RepL]
        exact ⟨_, _, rfl, w3, i3⟩
theorem setK_rep {H : Hp} {k : Key} {d : D} {v : V} (rv : Rep H d v) : ∀ {kd : Gd} {kvs : List (Key × V)}, kvs.map (·.1) = kd.map (·.1) → RepL H (kd.map (·.2)) (kvs.map (·.2)) →
    (putK kvs k v).map (·.1) = (setK kd k d).map (·.1) ∧ RepL H ((setK kd k d).map (·.2)) ((putK kvs k v).map (·.2)) := by
  have any : ∀ {kd : Gd} {kvs : List (Key × V)}, kvs.map (·.1) = kd.map (·.1) → (kvs.any fun kv => decide (kv.1 = k)) = (kd.any fun kv => decide (kv.1 = k)) := by
    intro kd
    induction kd with
    | nil => intro kvs e; cases kvs with
      | nil => rfl
      | cons _ _ => simp at e
    | cons p r ih => intro kvs e; cases kvs with
      | nil => simp at e
      | cons q t =>
        simp only [List.map_cons, List.cons.injEq] at e
        rw [List.any_cons, List.any_cons, e.1, ih e.2]
  have mp : ∀ {kd : Gd} {kvs : List (Key × V)}, kvs.map (·.1) = kd.map (·.1) → RepL H (kd.map (·.2)) (kvs.map (·.2)) →
      (kvs.map fun kv => if kv.1 = k then (kv.1, v) else kv).map (·.1) = (kd.map fun kv => if kv.1 = k then (kv.1, d) else kv).map (·.1) ∧
      RepL H ((kd.map fun kv => if kv.1 = k then (kv.1, d) else kv).map (·.2)) ((kvs.map fun kv => if kv.1 = k then (kv.1, v) else kv).map (·.2)) := by
    intro kd
    induction kd with
    | nil => intro kvs e r; cases kvs with
      | nil => exact ⟨rfl, r⟩
      | cons _ _ => simp at e
    | cons p t ih => intro kvs e r; cases kvs with
      | nil => simp at e
      | cons q u =>
        simp only [List.map_cons, List.cons.injEq] at e
        simp only [List.map_cons, RepL] at r
        obtain ⟨w, r', e2, h1, h2⟩ := r
        obtain ⟨e21, e22⟩ := List.cons.inj e2
        subst e22
        obtain ⟨i1, i2⟩ := ih e.2 h2
        by_cases z : q.1 = k
        · have z2 : p.1 = k := e.1 ▸ z
          simp only [List.map_cons, if_pos z, if_pos z2, RepL]
          exact ⟨by rw [i1, e.1], _, _, rfl, rv, i2⟩
        · have z2 : ¬ p.1 = k := e.1 ▸ z
          simp only [List.map_cons, if_neg z, if_neg z2, RepL]
          exact ⟨by rw [i1, e.1], _, _, rfl, e21 ▸ h1, i2⟩
  intro kd kvs e r
  unfold putK setK
  rw [any e]
  by_cases z : (kd.any fun kv => decide (kv.1 = k)) = true
  · rw [if_pos z, if_pos z]
    exact mp e r
  · rw [if_neg z, if_neg z]
    rw [List.map_append, List.map_append, List.map_append, List.map_append, e]
    exact ⟨rfl, RepL.append r (by simp only [List.map_cons, List.map_nil, RepL]; exact ⟨v, [], rfl, rv, rfl⟩)⟩
theorem merge_run {H : Hp} : ∀ {more : Gd} {mv : List (Key × V)} {kd : Gd} {kvs : List (Key × V)}, mv.map (·.1) = more.map (·.1) → RepL H (more.map (·.2)) (mv.map (·.2)) → kvs.map (·.1) = kd.map (·.1) → RepL H (kd.map (·.2)) (kvs.map (·.2)) →
    (mergeK kvs mv).map (·.1) = (mergeD kd more).map (·.1) ∧ RepL H ((mergeD kd more).map (·.2)) ((mergeK kvs mv).map (·.2))
  | [], [], _, _, _, _, h1, h2 => ⟨h1, h2⟩
  | [], _ :: _, _, _, e, _, _, _ => by simp at e
  | _ :: _, [], _, _, e, _, _, _ => by simp at e
  | q :: more, w :: mv, kd, kvs, e, r, h1, h2 => by
    simp only [List.map_cons, List.cons.injEq] at e
    simp only [List.map_cons, RepL] at r
    obtain ⟨v, r', e2, g1, g2⟩ := r
    obtain ⟨e3, e4⟩ := List.cons.inj e2
    subst e4
    have g1 : Rep H q.2 w.2 := e3 ▸ g1
    obtain ⟨s1, s2⟩ := setK_rep (k := w.1) g1 h1 h2
    have := merge_run (kd := setK kd w.1 q.2) (kvs := putK kvs w.1 w.2) e.2 g2 s1 s2
    rw [e.1] at this
    show (mergeK (putK kvs w.1 w.2) mv).map (·.1) = (mergeD (setK kd q.1 q.2) more).map (·.1) ∧ RepL H ((mergeD (setK kd q.1 q.2) more).map (·.2)) ((mergeK (putK kvs w.1 w.2) mv).map (·.2))
    rw [e.1]
    exact this
theorem c_dict (hc : X.calm = true) : CallR X (.type "dict") (rc New .dict) := by
  intro pins s σ H xs us Q I r ⟨ds, h1, d, hr, k⟩
  cases ds with
  | nil => simp only [P.ap] at hr; cases hr
  | cons a as =>
    cases as with
    | cons b bs => cases a <;> simp only [P.ap] at hr <;> cases hr
    | nil =>
      obtain ⟨x, rfl, h⟩ := h1.one
      cases a <;> simp only [P.ap] at hr <;> try (cases hr; done)
      rename_i z
      split at hr
      rotate_left
      · cases hr
      obtain ⟨b, vs, rfl, g1, g2⟩ := h
      cases e : pairsD z with
      | none => rw [e] at hr; cases hr
      | some g =>
        rw [e] at hr
        cases hr
        obtain ⟨ps, kvs, rfl, i1, i2, i3⟩ := pairs_run (X := X) e g2
        obtain ⟨m1, m2⟩ := merge_run i2 i3 (kd := []) (kvs := []) rfl (by simp [RepL])
        refine call_dictP hc pins s σ H _ us Q I r ⟨b, ps, kvs, rfl, .inl g1, i1, fun p hp => ?_⟩
        have sm := same_upd (o := .dK (mergeK [] kvs)) hp
        exact k _ _ sm ⟨p, _, rfl, hp, upd_same, m1, RepL.pers (Pers.of_same sm) _ _ m2⟩
/-! ### methods of data -/
theorem RepL.one {H : Hp} {d : D} {xs : List V} (h : RepL H [d] xs) : ∃ x, xs = [x] ∧ Rep H d x := by
  simp only [RepL] at h
  obtain ⟨v, r, rfl, h1, rfl⟩ := h
  exact ⟨v, rfl, h1⟩
theorem RepL.two {H : Hp} {d e : D} {xs : List V} (h : RepL H [d, e] xs) : ∃ x y, xs = [x, y] ∧ Rep H d x ∧ Rep H e y := by
  simp only [RepL] at h
  obtain ⟨v, r, rfl, h1, w, r', rfl, h2, rfl⟩ := h
  exact ⟨v, w, rfl, h1, h2⟩
/-- a method by values: the receiver and the arguments as data -/
def rm (N : Hp → Hp → D → V → Prop) (p : P) : V → List V → Hp → VK → Prop := fun x xs H Q => ∃ d ds, Rd H d x ∧ RepL H ds xs ∧ p.fits d = true ∧ Got N H (p.ap (d :: ds)) Q
theorem q_get (hu : X.A.units + 1 < cLine) : MtR X "dict.get" (rm Old .get) := by
  intro pins s σ H x xs v us Q I rx rxs ⟨d, ds, h1, h2, hf, r, hr, k⟩
  cases d <;> simp only [P.fits] at hf <;> try (cases hf; done)
  rename_i ks vs
  obtain ⟨b, kvs, rfl, g1, g2, g3⟩ := h1
  cases rx
  rcases ds with _ | ⟨a, _ | ⟨c, _ | ⟨e, es⟩⟩⟩
  · simp only [P.ap] at hr; cases hr
  · obtain ⟨y, rfl, hy⟩ := h2.one
    simp only [P.ap] at hr
    cases ek : keyD a with
    | none => rw [ek] at hr; cases hr
    | some kk =>
      rw [ek] at hr
      cases hr
      obtain rfl := key_rd ek (Rd.of hy)
      obtain ⟨u, rfl, ru⟩ := vals1 rxs
      obtain ⟨z1, z2⟩ := getK_zip (k := kk) g2 g3
      refine d_get1 (o := valV kvs kk) hu I (.inl ⟨kvs, kk, g1, rfl, rfl⟩) ru fun w' s' I' rw' => ⟨_, H, I', rw', k _ H (Same.refl H) ?_⟩
      show Rep H ((getK (ks.zip vs) kk).getD .non) ((valV kvs kk).getD .non)
      cases q : getK (ks.zip vs) kk with
      | none => rw [z2 q]; exact rfl
      | some d =>
        obtain ⟨v, q1, q2⟩ := z1 d q
        rw [q1]; exact q2
  · obtain ⟨y, w, rfl, hy, hw⟩ := h2.two
    simp only [P.ap] at hr
    cases ek : keyD a with
    | none => rw [ek] at hr; cases hr
    | some kk =>
      rw [ek] at hr
      cases hr
      obtain rfl := key_rd ek (Rd.of hy)
      obtain ⟨u, u2, rfl, ru, ru2⟩ := vals2 rxs
      obtain ⟨z1, z2⟩ := getK_zip (k := kk) g2 g3
      refine d_get2 (o := valV kvs kk) hu I (.inl ⟨kvs, kk, g1, rfl, rfl⟩) ru ru2 fun w' s' I' rw' => ⟨_, H, I', rw', k _ H (Same.refl H) ?_⟩
      show Rep H ((getK (ks.zip vs) kk).getD c) ((valV kvs kk).getD w)
      cases q : getK (ks.zip vs) kk with
      | none => rw [z2 q]; exact hw
      | some d =>
        obtain ⟨v, q1, q2⟩ := z1 d q
        rw [q1]; exact q2
  · simp only [P.ap] at hr; cases hr
theorem q_upper : MtR X "str.upper" (rm Old .upper) := by
  intro pins s σ H x xs v us Q I rx rxs ⟨d, ds, h1, h2, hf, r, hr, k⟩
  cases d <;> simp only [P.fits] at hf <;> try (cases hf; done)
  rename_i z
  obtain ⟨rfl, hz⟩ := h1
  cases ds with
  | cons a as => simp only [P.ap] at hr; cases hr
  | nil =>
    simp only [P.ap] at hr
    split at hr
    · rename_i hc
      cases hr
      obtain rfl : xs = [] := by simpa [RepL] using h2
      refine mt_upper pins s σ H _ _ v us Q I rx rxs ⟨_, rfl, rfl, by rw [str_len]; exact hc, k _ H (Same.refl H) ⟨by rw [str_eta], ?_⟩⟩
      rw [Array.length_toList]
      have h3 : (Txt.upper (⟨z.toArray⟩ : Str)).cps.size ≤ 3 * (⟨z.toArray⟩ : Str).length := PyProof.Rows.len_upper (⟨z.toArray⟩ : Str)
      rw [str_len] at h3
      have zb := sz_big
      have hb : (big : Nat) = 16777216 := rfl
      omega
    · cases hr
theorem indexD_spec {d : PyData} : ∀ {ds : List PyData} {j k : Nat}, indexD d ds j = some k → ∃ m z, k = j + m ∧ ds[m]? = some z ∧ PyData.eqv z d = true ∧ ∀ (i : Nat) (z' : PyData), i < m → ds[i]? = some z' → PyData.eqv z' d = false
  | [], j, k, h => by simp [indexD] at h
  | z :: r, j, k, h => by
    unfold indexD at h
    by_cases c : PyData.eqv z d = true
    · rw [if_pos c] at h
      cases h
      exact ⟨0, z, rfl, rfl, c, fun i z' hi => by omega⟩
    · rw [if_neg c] at h
      obtain ⟨m, z2, e, h1, h2, h3⟩ := indexD_spec h
      refine ⟨m + 1, z2, by omega, by simpa using h1, h2, fun i z' hi e' => ?_⟩
      cases i with
      | zero => simp at e'; subst e'; simpa using c
      | succ i => exact h3 i z' (by omega) (by simpa using e')
theorem q_index (hu : X.A.units + 65 < cLine) : MtR X "list.index" (rm Old .index) := by
  intro pins s σ H x xs v us Q I rx rxs ⟨d, ds, h1, h2, hf, r, hr, k⟩
  cases d <;> simp only [P.fits] at hf <;> try (cases hf; done)
  rename_i z
  rcases ds with _ | ⟨a, _ | ⟨c, es⟩⟩
  · simp only [P.ap] at hr; cases hr
  · obtain ⟨y, rfl, hy⟩ := h2.one
    simp only [P.ap] at hr
    split at hr
    rotate_left
    · cases hr
    rename_i hc
    rw [Bool.and_eq_true] at hc
    cases q : indexD (toP a) (toPL z) 0 with
    | none => rw [q] at hr; cases hr
    | some j =>
      rw [q] at hr
      cases hr
      obtain ⟨m, w, e, g1, g2, g3⟩ := indexD_spec q
      obtain rfl : j = m := by omega
      have dl := rd_dp (K := X.K) h1 (SeqAt.canLay_of_shaped hc.1)
      have dy := rd_dp (K := X.K) (Rd.of hy) (SeqAt.canLay_of_shaped hc.2)
      obtain ⟨b, vs, rfl, _⟩ := h1
      simp only [toP] at dl hc
      exact mt_indexD hu pins s σ H _ _ v us Q I rx rxs ⟨b, y, toP a, toPL z, j, w, rfl, rfl, dl, dy, hc.1, hc.2, g1, g2, g3, k _ H (Same.refl H) rfl⟩
  · simp only [P.ap] at hr; cases hr
end
end Rf

set_option Elab.async false
set_option linter.all false
set_option maxRecDepth 100000
set_option maxHeartbeats 4000000
namespace Rf
open PySem PySem.Spec PyProof.Rows L2

/-! ### plain syntax -/
/-- an expression that stands for itself among arguments -/
def plainE : Expr → Bool
  | .Starred .. => false
  | .Set .. => false
  | .Slice .. => false
  | .NamedExpr .. => false
  | .Yield .. => false
  | _ => true
theorem star_cons {e : Expr} (h : plainE e = true) (es : List Expr) (env : Env) : starEach (e :: es) env = (false, eval e env) :: starEach es env := by
  cases e <;> first | rfl | (simp [plainE] at h)
theorem star_all {env : Env} : ∀ {es : List Expr}, es.all plainE = true → starEach es env = es.map fun e => (false, eval e env)
  | [], _ => rfl
  | e :: es, h => by
    rw [List.all_cons, Bool.and_eq_true] at h
    rw [star_cons h.1, star_all h.2]
    rfl
theorem star_none {env : Env} {pos : Pos} {es : List Expr} (h : es.all plainE = true) : (backTo pos (starEach es env)).any (·.1) = false := by
  rw [star_all h]
  simp [backTo]
theorem star_few {env : Env} {pos : Pos} {es : List Expr} (h : es.all plainE = true) (hl : es.length < 30) :
    ((backTo pos (starEach es env)).all (fun x => !x.1) && (backToKw pos (keywordEach [] env)).all (fun x => x.1.isSome) && decide (es.length + ([] : List Keyword).length + (if ([] : List Keyword).isEmpty then 0 else 1) < 30)) = true := by
  rw [star_all h]
  simp [backTo, backToKw, keywordEach]
  exact hl
theorem mark_plain {e : Expr} (h : plainE e = true) (op : CmpOp) : behindInMarks op e = false := by
  cases e <;> first | rfl | (simp [plainE] at h)
theorem ix_plain {e : Expr} (h : plainE e = true) : PlainIx e := by
  intro o i
  cases e <;> first | rfl | (simp [plainE] at h)
/-- no super() -/
def recvE : Expr → Bool
  | .Call (.Name id _) [] [] _ => id != ("super" : Str)
  | _ => true
theorem base_plain {o : Expr} (h : recvE o = true) (attr : Str) (env : Env) : attributeBase o attr env (eval o env) = eval o env := by
  unfold attributeBase
  split
  · rename_i id _ _
    simp only [recvE] at h
    rw [if_pos (by simp [h])]
  · rfl
theorem bl_bl : ∀ {p : P}, p.bl = true → ∀ ds r, p.ap ds = some r → ∃ k, r = .bl k := by
  intro p hp ds r e
  have mp : ∀ {o : Option Bool} {f : Bool → D}, (∀ k, ∃ k', f k = .bl k') → o.map f = some r → ∃ k, r = .bl k := by
    intro o f hf h
    cases o with
    | none => cases h
    | some k =>
      obtain ⟨k', q⟩ := hf k
      rw [Option.map_some, q] at h
      cases h
      exact ⟨k', rfl⟩
  rcases ds with _ | ⟨a, _ | ⟨b, _ | ⟨c, ds⟩⟩⟩
  · cases p <;> simp [P.bl] at hp <;> simp only [P.ap] at e <;> cases e
  · cases p <;> simp [P.bl] at hp <;> simp only [P.ap] at e <;> first | (cases e; exact ⟨_, rfl⟩) | cases e
  · cases p <;> simp [P.bl] at hp
    · exact mp (fun k => ⟨k, rfl⟩) (by simpa only [P.ap] using e)
    · exact mp (fun k => ⟨!k, rfl⟩) (by simpa only [P.ap] using e)
    all_goals first
      | exact mp (fun k => ⟨k, rfl⟩) (by simpa only [P.ap] using e)
      | exact mp (fun k => ⟨!k, rfl⟩) (by simpa only [P.ap] using e)
      | (cases a <;> cases b <;> simp only [P.ap] at e <;> first | (cases e; exact ⟨_, rfl⟩) | cases e)
  · cases p <;> simp [P.bl] at hp <;> simp only [P.ap] at e <;> cases e

/-! ### argument lists, calls of built-ins -/
section
variable {X : Cx} {T : Tbl} {XR : Hp → Nat → List D → Value → Option Addr → Prop} {W : WX} {a b c m : E} {ea eb ec e : Expr} {pos : Pos}
/-- the expressions of a list, one for one -/
inductive All2 (X : Cx) (T : Tbl) (XR : Hp → Nat → List D → Value → Option Addr → Prop) (W : WX) : List E → List Expr → Prop where
  | nil : All2 X T XR W [] []
  | cons {a : E} {e : Expr} {as : List E} {es : List Expr} : PE X e (tE T XR W a) → plainE e = true → All2 X T XR W as es → All2 X T XR W (a :: as) (e :: es)
theorem All2.plain : ∀ {as : List E} {es : List Expr}, All2 X T XR W as es → es.all plainE = true
  | _, _, .nil => rfl
  | _, _, .cons _ p r => by rw [List.all_cons, p, All2.plain r]; rfl
theorem All2.len : ∀ {as : List E} {es : List Expr}, All2 X T XR W as es → as.length = es.length
  | _, _, .nil => rfl
  | _, _, .cons _ _ r => by simp [All2.len r]
theorem All2.pa : ∀ {as : List E} {es : List Expr}, All2 X T XR W as es → PA X es (tL T XR W as)
  | _, _, .nil => pa_nil
  | _, _, .cons h p r => pa_cons h (All2.pa r) (star_cons p _ _)
theorem n_callB {p : P} {id : String} {x : Str} {pp : Pos} {es : List Expr} {as : List E} (hc : CallR X (.builtin id) (rc New p)) (hg : Gl X x) (hm : X.mg x = none) (hv : bootBuiltins x = some (.builtin id))
    (hn : x ≠ "__name__") (hdb : (x == ("__debug__" : Str)) = false) (h : All2 X T XR W (a :: as) (e :: es)) : PE X (.Call (.Name x pp) (e :: es) [] pos) (denN T XR W (.prim p (a :: as))) := by
  have hp := h.plain
  rw [List.all_cons, Bool.and_eq_true] at hp
  exact peOf (pe_callB hc hg hm hv h.pa hn hdb (star_cons hp.1 _ _) (star_none hp.2)) fun σ H Q w => opN w
theorem n_callTy {p : P} {id : String} {x : Str} {pp : Pos} {es : List Expr} {as : List E} (hc : CallR X (.type id) (rc New p)) (hg : Gl X x) (hm : X.mg x = none) (hv : bootBuiltins x = some (.type id))
    (hn : x ≠ "__name__") (hdb : (x == ("__debug__" : Str)) = false) (h : All2 X T XR W (a :: as) (e :: es)) : PE X (.Call (.Name x pp) (e :: es) [] pos) (denN T XR W (.prim p (a :: as))) := by
  have hp := h.plain
  rw [List.all_cons, Bool.and_eq_true] at hp
  exact peOf (pe_callTy hc hg hm hv h.pa hn hdb (star_cons hp.1 _ _) (star_none hp.2)) fun σ H Q w => opN w
theorem s_isa {t : Ty} {x y : Str} {p1 p2 : Pos} (hg : Gl X x) (hm : X.mg x = none) (hv : bootBuiltins x = some (.builtin "isinstance")) (hn : x ≠ "__name__") (hdb : (x == ("__debug__" : Str)) = false)
    (hg2 : Gl X y) (hm2 : X.mg y = none) (hv2 : bootBuiltins y = some (.type t.name)) (hn2 : y ≠ "__name__") (hdb2 : (y == ("__debug__" : Str)) = false)
    (ha : PE X ea (tE T XR W a)) (hp : plainE ea = true) : PE X (.Call (.Name x p1) [ea, .Name y p2] [] pos) (den T XR W (.prim (.isa t) [a])) := by
  have pb : PE X (.Name y p2) (tC (.ty t.name)) := pe_bltn hg2 hm2 hv2 rfl hn2 hdb2
  refine peOf (pe_callB (c_isa t) hg hm hv (pa_cons ha (pa_cons pb pa_nil) (star_cons hp _ _)) hn hdb (star_cons hp _ _) (star_none (by rfl))) fun σ H Q w => ?_
  refine tE_mono (op1 w) fun x H1 ⟨d, h1, r, hr, k⟩ => ⟨x, d, rfl, h1, r, hr, fun v H' sm n => k v H' sm ?_⟩
  simp only [P.ap] at hr; cases hr; exact n
/-! ### items, slices -/
theorem s_ix (hu : X.A.units + 1 < cLine) (ha : PE X ea (tE T XR W a)) (hb : PE X eb (tE T XR W b)) (hp : plainE eb = true) : PE X (.Subscript ea eb pos) (den T XR W (.prim .ix [a, b])) :=
  peOf (pe_ix (i_ix hu) ha hb (ix_plain hp)) fun σ H Q h => op2 h
/-- a part of a slice -/
def tP (T : Tbl) (XR : Hp → Nat → List D → Value → Option Addr → Prop) (W : WX) : List E → TO
  | [] => tNoPart
  | b :: _ => tPart (den T XR W b)
theorem part_go {F : Fx} {σ : L2.St} {H : Hp} {st : Sx} {lo : List E} {Q : Option Int → Hp → Prop} (I : SI F σ st H) (h : Post XR W F σ H (evp T lo st) fun o H' => Q o H') : tP T XR W lo σ H Q := by
  cases lo with
  | nil => simp only [evp] at h; exact h H (Pers.refl H) I
  | cons b bs =>
    simp only [evp] at h
    refine ⟨F, st, I, h.bind fun d s1 H1 _ p I1 q v rv => ?_⟩
    cases d <;> try (exact q.elim)
    rename_i i _
    exact ⟨i, rv, q H1 (Pers.refl _) I1⟩
/-- an argument, then the rest -/
theorem arg1 {F : Fx} {σ : L2.St} {H : Hp} {st : Sx} {α : Type} {f : Sx → Res α} {g : D → α → Option D} {Q : VK} {R : D → Hp → Prop} (I : SI F σ st H)
    (h : Post XR W F σ H (match a.isOwn with
      | some i => match st.r[i]? with
        | some (.own _) => (f st).bind fun o s1 => match s1.r[i]? with
          | some (.own xs) => ofOpt (g (.lst xs) o) s1
          | _ => .bad
        | _ => .bad
      | none => (ev T a st).bind fun d s0 => (f s0).bind fun o s1 => ofOpt (g d o) s1) R)
    (k : ∀ x H1 s1, Pers H H1 → SI F σ s1 H1 → Post XR W F σ H1 (f s1) (fun o H2 => ∃ d, Rd H2 d x ∧ ∃ r, g d o = some r ∧ ∃ s2, SI F σ s2 H2 ∧ ∀ H3, Pers H2 H3 → SI F σ s2 H3 → R r H3) → Q x H1) : tE T XR W a σ H Q := by
  unfold tE
  cases e : a.isOwn with
  | none =>
    rw [e] at h
    simp only at h ⊢
    refine ⟨F, st, I, h.bind fun d s0 H1 _ p I1 q v rv => k v H1 s0 p I1 (q.bind fun o s1 H2 _ p2 I2 q2 => ?_)⟩
    unfold ofOpt at q2
    split at q2
    · rename_i r er
      exact ⟨d, Rd.of (Rep.pers p2 d v rv), r, er, s1, I2, fun H3 p3 I3 => q2 H3 p3 I3⟩
    · exact q2.elim
  | some i =>
    rw [e] at h
    simp only at h ⊢
    split at h
    · rename_i xs ex
      obtain ⟨b, us, q1, q2, q3⟩ := I.own ex
      refine ⟨.ref b, q1, k _ H st (Pers.refl H) I (h.bind fun o s1 H2 _ p2 I2 q2 => ?_)⟩
      split at q2
      · rename_i ys ey
        obtain ⟨b', us', g1, g2, g3⟩ := I2.own ey
        rw [q1] at g1
        cases g1
        unfold ofOpt at q2
        split at q2
        · rename_i r er
          exact ⟨.lst ys, ⟨b, us', rfl, .inl g2, g3⟩, r, er, s1, I2, fun H3 p3 I3 => q2 H3 p3 I3⟩
        · exact q2.elim
      · exact q2.elim
    · exact h.elim
theorem Post.assoc {F : Fx} {σ : L2.St} {H : Hp} {α β γ : Type} {r : Res α} {f : α → Sx → Res β} {g : β → Sx → Res γ} {R : γ → Hp → Prop} (h : Post XR W F σ H (r.bind fun x s => (f x s).bind g) R) :
    Post XR W F σ H ((r.bind f).bind g) R := by
  cases r <;> exact h
theorem n_cut {lo hi : List E} {elo ehi : Option Expr} {p2 : Pos} (ha : PE X ea (tE T XR W a)) (hl : PO X elo (tP T XR W lo)) (hh : PO X ehi (tP T XR W hi)) : PE X (.Subscript ea (.Slice elo ehi none p2) pos) (denN T XR W (.cut a lo hi)) := by
  refine peOf (pe_slice sl_cut ha hl hh) fun σ H Q ⟨F, st, I, h⟩ => ?_
  simp only [ev] at h
  refine arg1 (f := fun st => (evp T lo st).bind fun l s1 => (evp T hi s1).bind fun h s2 => .ok (l, h) s2) (g := fun d o => cutD d o.1 o.2) (R := fun d H1 => ∀ v H', Same H1 H' → New H1 H' d v → Q v H') I ?_ fun x H1 s1 p I1 q => ?_
  · cases e : a.isOwn with
    | none =>
      rw [e] at h
      simp only at h ⊢
      cases e1 : ev T a st with
      | bad => rw [e1] at h; exact h
      | exc => rw [e1] at h; exact h
      | ok d s0 =>
        rw [e1] at h
        simp only [Res.bind] at h ⊢
        cases e2 : evp T lo s0 with
        | bad => rw [e2] at h; exact h
        | exc => rw [e2] at h; exact h
        | ok d s0 =>
          rw [e2] at h
          simp only at h ⊢
          cases e3 : evp T hi s0 with
          | bad => rw [e3] at h; exact h
          | exc => rw [e3] at h; exact h
          | ok d s0 =>
            rw [e3] at h
            exact h
    | some i =>
      rw [e] at h
      simp only at h ⊢
      cases ex : st.r[i]? with
      | none => rw [ex] at h; exact h.elim
      | some z =>
        rw [ex] at h
        cases z <;> try (exact h.elim)
        simp only [Res.bind] at h ⊢
        cases e2 : evp T lo st with
        | bad => rw [e2] at h; exact h
        | exc => rw [e2] at h; exact h
        | ok d s0 =>
          rw [e2] at h
          simp only at h ⊢
          cases e3 : evp T hi s0 with
          | bad => rw [e3] at h; exact h
          | exc => rw [e3] at h; exact h
          | ok d s0 =>
            rw [e3] at h
            exact h
  · refine part_go I1 (q.bind fun o s2 H2 _ p2 I2 q2 => part_go I2 (q2.bind fun o2 s3 H3 _ p3 I3 q3 => ?_))
    obtain ⟨d, h1, r, er, s4, I4, k⟩ := q3 H3 (Pers.refl _) I3
    exact ⟨d, h1, r, er, fun v H' sm nw => k H3 (Pers.refl _) I4 v H' sm nw⟩
end
end Rf

set_option Elab.async false
set_option linter.all false
set_option maxRecDepth 100000
set_option maxHeartbeats 4000000
namespace Rf
open PySem PySem.Spec PyProof.Rows L2

/-! ### what a def promises, by data -/
def SlotReps (l : List Addr) (H : Hp) : List Slot → List V → Prop
  | [], vs => vs = []
  | x :: xs, vs => ∃ v r, vs = v :: r ∧ (match x with | .val d => Rep H d v | .glb k => ∃ a, v = .ref a ∧ l[k]? = some a | _ => False) ∧ SlotReps l H xs r
structure GR (l : List Addr) (H : Hp) (g : List Gd) : Prop where
  glen : g.length = l.length
  glob : ∀ (k : Nat) (kd : Gd) (a : Addr), g[k]? = some kd → l[k]? = some a → GRep H kd a
  gone : ∀ (i j : Nat) (a : Addr), l[i]? = some a → l[j]? = some a → i = j
/-- all but the shared dicts stands as it stood -/
def Chg (l : List Addr) (H H' : Hp) : Prop := ∀ a o, H a = some o → a ∉ l → H' a = some o
def spF (XR : Hp → Nat → List D → Value → Option Addr → Prop) (n : Nat) (F : Mirror) : Sp := fun vs H Q E => ∃ l xs g, SlotReps l H xs vs ∧ GR l H g ∧ xs.length = n ∧
  match F xs g with
  | .ret d g' => ∀ v H', Chg l H H' → Pers H H' → GR l H' g' → Rep H' d v → Q v H'
  | .retG kd g' => ∀ a H', Chg l H H' → Pers H H' → GR l H' g' → H a = none → a ∉ l → GRep H' kd a → Q (.ref a) H'
  | .exc c fs g' => ∀ cls dd H', Chg l H H' → Pers H H' → GR l H' g' → XR H' c fs cls dd → E cls dd H'
  | .bad => False
theorem SlotReps.len {l : List Addr} {H : Hp} : ∀ {xs : List Slot} {vs : List V}, SlotReps l H xs vs → vs.length = xs.length
  | [], vs, h => by simp only [SlotReps] at h; subst h; rfl
  | x :: xs, vs, h => by
    obtain ⟨v, r, rfl, _, h2⟩ := h
    simp [SlotReps.len h2]
theorem SI.gr {F : Fx} {σ : L2.St} {st : Sx} {H : Hp} (I : SI F σ st H) : GR F.l H st.g := ⟨I.glen, I.glob, I.gone⟩
theorem SI.not_l {F : Fx} {σ : L2.St} {st : Sx} {H : Hp} (I : SI F σ st H) {a : Addr} (h : ∀ kvs, H a ≠ some (.dK kvs)) : a ∉ F.l := by
  intro m
  obtain ⟨k, hk, e⟩ := List.getElem_of_mem m
  have hk' : k < st.g.length := by rw [I.glen]; exact hk
  obtain ⟨kvs, q, _⟩ := I.glob k _ a (List.getElem?_eq_getElem hk') (by rw [List.getElem?_eq_getElem hk, e])
  exact h kvs q
/-- behind a call: the shared dicts may have turned -/
theorem SI.called {F : Fx} {σ : L2.St} {st : Sx} {H H' : Hp} {g : List Gd} (I : SI F σ st H) (c : Chg F.l H H') (p : Pers H H') (r : GR F.l H' g) : SI F σ ⟨st.r, g⟩ H' := by
  refine ⟨fun i x h => ?_, I.one, I.fresh, fun a o h n => c _ _ (I.keep a o h n) n, r.glen, r.glob, r.gone, fun q hq => ?_, I.hfr⟩
  rotate_left
  · obtain ⟨vs, q1, q2⟩ := I.hid q hq
    exact ⟨vs, c _ _ q1 (I.hfr q hq).2, RepL.pers p _ _ q2⟩
  obtain ⟨y, h1, h2⟩ := I.slot i x h
  refine ⟨y, h1, ?_⟩
  cases x with
  | none => trivial
  | val d => obtain ⟨v, e1, e2⟩ := h2; exact ⟨v, e1, Rep.pers p _ _ e2⟩
  | own ds =>
    obtain ⟨a, vs, e1, e2, e3⟩ := h2
    exact ⟨a, vs, e1, c _ _ e2 (I.not_l fun kvs q => by rw [e2] at q; cases q), RepL.pers p _ _ e3⟩
  | glb k => exact h2

section
variable {X : Cx} {T : Tbl} {XR : Hp → Nat → List D → Value → Option Addr → Prop} {W : WX} {a b c m : E} {ea eb ec e : Expr} {pos : Pos}
/-! ### displays -/
theorem s_tup {es : List E} {xs : List Expr} {k : Nat} (h : All2 X T XR W es xs) (hn : (es.all fun a => a.isOwn.isNone) = true) : PE X (.Tuple xs k pos) (den T XR W (.tup es)) := by
  refine peOf (pe_tup h.pa) fun σ H Q ⟨F, st, I, w⟩ => ?_
  simp only [ev] at w
  refine args es st H _ I (w.bind fun ds s1 H1 _ p I1 q vs rv => ?_)
  have r := rv.rep hn
  split at q
  · rename_i hz
    refine ⟨by rw [sz_big, ← r.len]; exact hz, fun p hp => ?_⟩
    have sm := same_upd (o := .tup vs) hp
    exact q _ (Pers.of_same sm) (I1.same sm) _ (by simp only [Rep]; exact ⟨p, vs, rfl, upd_same, RepL.pers (Pers.of_same sm) _ _ r⟩)
  · exact q.elim
theorem n_lst {es : List E} {xs : List Expr} (h : All2 X T XR W es xs) (hn : (es.all fun a => a.isOwn.isNone) = true) : PE X (.List xs pos) (denN T XR W (.lst es)) := by
  refine peOf (pe_lst h.pa) fun σ H Q ⟨F, st, I, w⟩ => ?_
  simp only [ev] at w
  refine args es st H _ I (w.bind fun ds s1 H1 _ p I1 q vs rv => ?_)
  have r := rv.rep hn
  split at q
  · rename_i hz
    refine ⟨by rw [sz_big, ← r.len]; exact hz, fun p hp => ?_⟩
    have sm := same_upd (o := .lst vs) hp
    exact q H1 (Pers.refl _) I1 _ _ sm ⟨p, vs, rfl, hp, upd_same, RepL.pers (Pers.of_same sm) _ _ r⟩
  · exact q.elim
/-! ### calls of defs -/
def tC1 (T : Tbl) (XR : Hp → Nat → List D → Value → Option Addr → Prop) (W : WX) (a : E) : TE := match a.isGv with
  | some i => tVar i
  | none => den T XR W a
def tCL (T : Tbl) (XR : Hp → Nat → List D → Value → Option Addr → Prop) (W : WX) : List E → TA
  | [] => fun _ H Q => Q [] H
  | a :: as => fun σ H Q => tC1 T XR W a σ H fun x H1 => tCL T XR W as σ H1 fun xs H2 => Q (x :: xs) H2
theorem argsC {F : Fx} {σ : L2.St} : ∀ (as : List E) (st : Sx) (H : Hp) (Q : List V → Hp → Prop), SI F σ st H → Post XR W F σ H (evc T as st) (fun xs H' => ∀ vs, SlotReps F.l H' xs vs → Q vs H') → tCL T XR W as σ H Q
  | [], st, H, Q, I, h => by
    simp only [evc] at h
    exact h H (Pers.refl H) I [] rfl
  | a :: as, st, H, Q, I, h => by
    show tC1 T XR W a σ H _
    rw [evc] at h
    unfold tC1
    cases e : a.isGv with
    | none =>
      rw [e] at h
      simp only at h ⊢
      refine ⟨F, st, I, h.bind fun d s1 H1 _ p I1 q v rv => argsC as s1 H1 _ I1 (q.bind fun xs s2 H2 _ p2 I2 q2 vs rvs => ?_)⟩
      exact q2 H2 (Pers.refl _) I2 (v :: vs) ⟨v, vs, rfl, Rep.pers p2 d v rv, rvs⟩
    | some i =>
      rw [e] at h
      simp only at h ⊢
      split at h
      · rename_i k ek
        obtain ⟨y, h1, h2⟩ := I.slot i _ ek
        obtain ⟨b, rfl, h3⟩ := h2
        refine ⟨.ref b, h1, argsC as st H _ I (h.bind fun xs s1 H1 _ p I1 q vs rvs => ?_)⟩
        exact q H1 (Pers.refl _) I1 (.ref b :: vs) ⟨.ref b, vs, rfl, ⟨b, rfl, h3⟩, rvs⟩
      · exact h.elim
inductive All3 (X : Cx) (T : Tbl) (XR : Hp → Nat → List D → Value → Option Addr → Prop) (W : WX) : List E → List Expr → Prop where
  | nil : All3 X T XR W [] []
  | cons {a : E} {e : Expr} {as : List E} {es : List Expr} : PE X e (tC1 T XR W a) → plainE e = true → All3 X T XR W as es → All3 X T XR W (a :: as) (e :: es)
theorem All3.plain : ∀ {as : List E} {es : List Expr}, All3 X T XR W as es → es.all plainE = true
  | _, _, .nil => rfl
  | _, _, .cons _ p r => by rw [List.all_cons, p, All3.plain r]; rfl
theorem All3.pa : ∀ {as : List E} {es : List Expr}, All3 X T XR W as es → PA X es (tCL T XR W as)
  | _, _, .nil => pa_nil
  | _, _, .cons h p r => pa_cons h (All3.pa r) (star_cons p _ _)
theorem tC1_mono {σ : L2.St} {a : E} {H : Hp} {Q Q' : VK} (h : tC1 T XR W a σ H Q) (k : ∀ x H, Q x H → Q' x H) : tC1 T XR W a σ H Q' := by
  unfold tC1 at h ⊢
  cases e : a.isGv with
  | none => rw [e] at h; exact den_mono h k
  | some i => rw [e] at h; obtain ⟨v, h1, h2⟩ := h; exact ⟨v, h1, k _ _ h2⟩
theorem tCL_mono {σ : L2.St} : ∀ {as : List E} {H : Hp} {Q Q' : List V → Hp → Prop}, tCL T XR W as σ H Q → (∀ xs H, Q xs H → Q' xs H) → tCL T XR W as σ H Q'
  | [], H, Q, Q', h, k => k _ _ h
  | a :: as, H, Q, Q', h, k => by
    have h : tC1 T XR W a σ H fun x H1 => tCL T XR W as σ H1 fun xs H2 => Q (x :: xs) H2 := h
    exact tC1_mono h fun v H1 q => tCL_mono q fun xs H2 q => k _ _ q
theorem tCL_len {σ : L2.St} : ∀ {as : List E} {H : Hp} {Q : List V → Hp → Prop}, tCL T XR W as σ H Q → tCL T XR W as σ H fun xs H1 => xs.length = as.length ∧ Q xs H1
  | [], H, Q, h => ⟨rfl, h⟩
  | a :: as, H, Q, h => by
    have h : tC1 T XR W a σ H fun x H1 => tCL T XR W as σ H1 fun xs H2 => Q (x :: xs) H2 := h
    exact tC1_mono h fun v H1 q => tCL_mono (tCL_len q) fun xs H2 q => ⟨by simp [q.1], q.2⟩
theorem tCL_app {σ : L2.St} : ∀ {as bs : List E} {H : Hp} {Q : List V → Hp → Prop}, tCL T XR W (as ++ bs) σ H Q → tCL T XR W as σ H fun xs H1 => xs.length = as.length ∧ tCL T XR W bs σ H1 fun ys H2 => ys.length = bs.length ∧ Q (xs ++ ys) H2 := by
  intro as
  induction as with
  | nil => intro bs H Q h; exact ⟨rfl, tCL_len h⟩
  | cons a as ih =>
    intro bs H Q h
    have h : tC1 T XR W a σ H fun x H1 => tCL T XR W (as ++ bs) σ H1 fun xs H2 => Q (x :: xs) H2 := h
    refine tC1_mono h fun x H1 q => ?_
    have := ih q
    refine tCL_mono this fun xs H2 z => ⟨by simp [z.1], z.2⟩
theorem All3.split : ∀ {es1 es2 : List Expr} {as : List E}, All3 X T XR W as (es1 ++ es2) → ∃ a1 a2, as = a1 ++ a2 ∧ a1.length = es1.length ∧ a2.length = es2.length ∧ All3 X T XR W a1 es1 ∧ All3 X T XR W a2 es2 := by
  have len : ∀ {as : List E} {es : List Expr}, All3 X T XR W as es → as.length = es.length := by
    intro as
    induction as with
    | nil => intro es h; cases h; rfl
    | cons a as ih => intro es h; cases h with | cons _ _ h => simp [ih h]
  intro es1
  induction es1 with
  | nil => intro es2 as h; exact ⟨[], as, rfl, rfl, len h, .nil, h⟩
  | cons e es1 ih =>
    intro es2 as h
    cases h with
    | cons h1 h2 h3 =>
      obtain ⟨a1, a2, rfl, l1, l2, q1, q2⟩ := ih h3
      exact ⟨_ :: a1, a2, rfl, by simp [l1], l2, .cons h1 h2 q1, q2⟩
theorem All3.pk : ∀ {as : List E} {kws : List Keyword}, All3 X T XR W as (kws.map (·.value)) → PK X kws (tCL T XR W as)
  | as, [], h => by cases h; exact pk_nil
  | as, ⟨n, e, p⟩ :: kws, h => by
    cases h with
    | cons h1 h2 h3 => exact pk_cons h1 (All3.pk h3)
theorem kw_some {env : Env} {pos : Pos} : ∀ {kws : List Keyword} {ks : List Str}, kws.map (·.arg) = ks.map some → (backToKw pos (keywordEach kws env)).all (·.1.isSome) = true ∧ (backToKw pos (keywordEach kws env)).filterMap (·.1) = ks ∧ (backToKw pos (keywordEach kws env)).any (·.1.isNone) = false
  | [], [], _ => ⟨rfl, rfl, rfl⟩
  | [], _ :: _, h => by simp at h
  | _ :: _, [], h => by simp at h
  | ⟨n, e, p⟩ :: kws, k :: ks, h => by
    simp only [List.map_cons, List.cons.injEq] at h
    obtain ⟨rfl, h⟩ := h
    obtain ⟨i1, i2, i3⟩ := kw_some (env := env) (pos := pos) h
    refine ⟨?_, ?_, ?_⟩
    · show (true && _) = true; rw [Bool.true_and]; exact i1
    · show k :: _ = _; rw [← i2]; rfl
    · show (false || _) = false; rw [Bool.false_or]; exact i3
/-- how a def takes its arguments: the first ones by position, the others by name, in the parameters' order -/
def BindK (K : PySem.W.Frag) (fd : FuncData) (ps : List Str) : Prop := ∀ (s : Shared) (us : List Value) (j : Nat), K.In s.heap → us.length = ps.length → j ≤ ps.length → BindsTo s fd ⟨us.take j, (ps.drop j).zip (us.drop j)⟩ (ps.zip us)
/-- a def that may be called here -/
structure FnAt (XR : Hp → Nat → List D → Value → Option Addr → Prop) (F : Mirror) (X : Cx) (x : Str) (ps : List Str) : Prop where
  ok : ∃ lv f fd, FnG X.prog X.w X.K X.mg X.base lv f fd ps (spF XR ps.length F) ∧ Room lv X.A ∧ X.mg x = some (.ref f) ∧ PySem.W.keepIn X.K (.ref f) = true ∧ BindK X.K fd ps ∧ ∀ xs g, xs.length ≠ ps.length → F xs g = .bad
/-- the call itself -/
theorem call_fin {F : Fx} {k : Nat} {lv : Nat} {f : Addr} {fd : FuncData} {ps : List Str} {pins : List (Addr × Obj)} {σ : L2.St} {Q : VK} (G : FnG X.prog X.w X.K X.mg X.base lv f fd ps (spF XR ps.length (T k))) (room : Room lv X.A) (hb : BindK X.K fd ps) (ar : ∀ xs g, xs.length ≠ ps.length → T k xs g = .bad)
    (gd : X.A.guards = some []) (tk : Takes X W) {s1 : Shared} {H1 : Hp} {st1 : Sx} {us ws : List Value} {vs : List V} {xs : List Slot} (I1 : Inv X pins σ H1 s1) (rv : Vals vs (us ++ ws)) (J : SI F σ st1 H1) (r : SlotReps F.l H1 xs vs)
    (q : match T k xs st1.g with
      | .ret d g => Post XR W F σ H1 (.ok d ⟨st1.r, g⟩) (fun d H' => ∀ v, Rep H' d v → Q v H')
      | .retG kd g => ∀ a H', Pers H1 H' → SI F σ ⟨st1.r, g⟩ H' → H1 a = none → a ∉ F.l → F.H0 a = none → GRep H' kd a → (∀ b o, H1 b = some o → b ∉ F.l → H' b = some o) → Q (.ref a) H'
      | .exc c fs g => Post XR W F σ H1 (.exc c fs ⟨st1.r, g⟩ : Res D) (fun d H' => ∀ v, Rep H' d v → Q v H')
      | .bad => False) :
    wpAny (model X.prog X.w) X.A (call (.ref f) us ((ps.drop us.length).zip ws)) (EP X pins σ Q) X.xe s1 := by
  have hn : xs.length = ps.length := by
    by_cases z : xs.length = ps.length
    · exact z
    · rw [ar xs st1.g z] at q; exact q.elim
  have hl : (us ++ ws).length = ps.length := by rw [← rv.length, r.len, hn]
  have hj : us.length ≤ ps.length := by rw [← hl]; simp
  refine runG (args := ⟨us, (ps.drop us.length).zip ws⟩) G room gd tk ?_ I1 rv ⟨F.l, xs, st1.g, r, J.gr, hn, ?_⟩
  · have := hb s1 (us ++ ws) us.length I1.kIn hl hj
    rwa [List.take_left, List.drop_left] at this
  · cases e : T k xs st1.g with
    | ret d g =>
      rw [e] at q
      exact fun v H' ch pe gr rr => q H' pe (J.called ch pe gr) v rr
    | retG kd g =>
      rw [e] at q
      refine fun a H' ch pe gr ha hl hr => q a H' pe (J.called ch pe gr) ha hl ?_ hr ch
      cases z : F.H0 a with
      | none => rfl
      | some o => have := J.keep a o z hl; rw [ha] at this; cases this
    | exc c fs g =>
      rw [e] at q
      exact fun cls dd H' ch pe gr x => q cls dd H' pe (J.called ch pe gr) x
    | bad => rw [e] at q; exact q
theorem s_callG {k : Nat} {x : Str} {pp : Pos} {ps : List Str} {as : List E} {es : List Expr} {kws : List Keyword} (Fa : FnAt XR (T k) X x ps) (gd : X.A.guards = some []) (tk : Takes X W) (hg : Gl X x) (hdb : (x == ("__debug__" : Str)) = false) (h : All3 X T XR W as (es ++ kws.map (·.value)))
    (hkw : kws.map (·.arg) = ((ps.drop es.length).take kws.length).map some) (hl : kws = [] ∨ es.length + kws.length = ps.length) :
    PE X (.Call (.Name x pp) es kws pos) (fun σ H Q => ∃ F st, SI F σ st H ∧ Post XR W F σ H (evc T as st) fun xs H1 => ∃ st1, SI F σ st1 H1 ∧ match T k xs st1.g with
      | .ret d g => Post XR W F σ H1 (.ok d ⟨st1.r, g⟩) (fun d H' => ∀ v, Rep H' d v → Q v H')
      | .retG kd g => ∀ a H', Pers H1 H' → SI F σ ⟨st1.r, g⟩ H' → H1 a = none → a ∉ F.l → F.H0 a = none → GRep H' kd a → (∀ b o, H1 b = some o → b ∉ F.l → H' b = some o) → Q (.ref a) H'
      | .exc c fs g => Post XR W F σ H1 (.exc c fs ⟨st1.r, g⟩ : Res D) (fun d H' => ∀ v, Rep H' d v → Q v H')
      | .bad => False) := by
  obtain ⟨lv, f, fd, G, room, hm, hk, hb, ar⟩ := Fa.ok
  obtain ⟨a1, a2, rfl, l1, l2, h1, h2⟩ := h.split
  refine ⟨fun pins s σ H Q I0 ⟨F, st, I, w⟩ => ?_⟩
  have go : tCL T XR W (a1 ++ a2) σ H fun vs H1 => ∃ xs st1, SI F σ st1 H1 ∧ SlotReps F.l H1 xs vs ∧ (match T k xs st1.g with
      | .ret d g => Post XR W F σ H1 (.ok d ⟨st1.r, g⟩) (fun d H' => ∀ v, Rep H' d v → Q v H')
      | .retG kd g => ∀ a H', Pers H1 H' → SI F σ ⟨st1.r, g⟩ H' → H1 a = none → a ∉ F.l → F.H0 a = none → GRep H' kd a → (∀ b o, H1 b = some o → b ∉ F.l → H' b = some o) → Q (.ref a) H'
      | .exc c fs g => Post XR W F σ H1 (.exc c fs ⟨st1.r, g⟩ : Res D) (fun d H' => ∀ v, Rep H' d v → Q v H')
      | .bad => False) :=
    argsC _ st H _ I (w.mono fun xs s1 H1 _ p I1 ⟨st1, J, q⟩ vs rv => ⟨xs, st1, J, rv, q⟩)
  have go := tCL_app go
  have nz : ∀ {us ws : List Value} {s1 : Shared} {H1 : Hp} {vs zs : List V} {pr : (∃ xs st1, SI F σ st1 H1 ∧ SlotReps F.l H1 xs (vs ++ zs) ∧ (match T k xs st1.g with
      | .ret d g => Post XR W F σ H1 (.ok d ⟨st1.r, g⟩) (fun d H' => ∀ v, Rep H' d v → Q v H')
      | .retG kd g => ∀ a H', Pers H1 H' → SI F σ ⟨st1.r, g⟩ H' → H1 a = none → a ∉ F.l → F.H0 a = none → GRep H' kd a → (∀ b o, H1 b = some o → b ∉ F.l → H' b = some o) → Q (.ref a) H'
      | .exc c fs g => Post XR W F σ H1 (.exc c fs ⟨st1.r, g⟩ : Res D) (fun d H' => ∀ v, Rep H' d v → Q v H')
      | .bad => False))}, Inv X pins σ H1 s1 → Vals vs us → Vals zs ws → us.length = es.length →
      wpAny (model X.prog X.w) X.A (call (.ref f) us ((ps.drop es.length).zip ws)) (EP X pins σ Q) X.xe s1 := by
    rintro us ws s1 H1 vs zs ⟨xs, st1, J, r, q⟩ I1 r1 r2 lu
    rw [← lu]
    exact call_fin G room hb ar gd tk I1 (r1.append r2) J r q
  have hks : kws.map (·.arg) = ((ps.drop es.length).take kws.length).map some := hkw
  obtain ⟨k1, k2, k3⟩ := kw_some (env := X.env) (pos := pos) hks
  have zk : ∀ ws : List Value, ws.length = kws.length → ((ps.drop es.length).take kws.length).zip ws = (ps.drop es.length).zip ws := by
    intro ws hw
    rcases hl with z | z
    · subst z
      obtain rfl : ws = [] := List.length_eq_zero_iff.mp hw
      simp
    · congr 1
      rw [List.take_of_length_le]
      rw [List.length_drop]; omega
  cases kws with
  | nil =>
    have e2 : a2 = [] := List.length_eq_zero_iff.mp l2
    subst e2
    have z0 : ∀ us : List Value, call (.ref f) us ((ps.drop es.length).zip []) = call (.ref f) us := fun us => by rw [List.zip_nil_right]
    cases h1 with
    | nil =>
      refine wpAny_Call_Name_kw (ld_glob I0 hg hm ?_ hdb)
      refine PySem.W.callWith_K0 I0.kIn hk ?_
      have := nz (us := []) (ws := []) (vs := []) (zs := []) (pr := (show tCL T XR W [] σ H _ from go.2).2) I0 .nil .nil rfl
      rwa [z0] at this
    | cons g1 g2 g3 =>
      have hp := (All3.cons g1 g2 g3).plain
      rw [List.all_cons, Bool.and_eq_true] at hp
      refine wpAny_Call_Name_kw (ld_glob I0 hg hm ?_ hdb)
      refine PySem.W.callWith_K (h₀ := X.base) I0.ok.mod.kin hk (thn ((All3.cons g1 g2 g3).pa.run pos pins s σ H _ I0 go) fun us s1 ⟨vs, H1, I1, rv, ql, q⟩ => ⟨I1.kIn, ?_⟩) (star_cons hp.1 _ _) (star_none hp.2)
      have lu : us.length = _ := rv.length.symm.trans (ql.trans l1)
      have := nz (us := us) (ws := []) (vs := vs) (zs := []) (pr := (show tCL T XR W [] σ H1 _ from q).2) I1 rv .nil lu
      rwa [z0] at this
  | cons kw kws =>
    have pk := h2.pk
    cases h1 with
    | nil =>
      refine wpAny_Call_Name_kw (ld_glob I0 hg hm ?_ hdb)
      refine PySem.W.callWith_KW0 I0.ok.mod.kin hk k1 (thn (pk.run pos pins s σ H _ I0 go.2) fun ws s2 ⟨zs, H2, I2, rz, zl, q2⟩ => ⟨I2.kIn, ?_⟩) (by rw [k3]; rfl)
      rw [k2, zk ws (by rw [← rz.length, zl, l2, List.length_map])]
      exact nz (us := []) (ws := ws) (vs := []) (zs := zs) (pr := q2) I2 .nil rz rfl
    | cons g1 g2 g3 =>
      have hp := (All3.cons g1 g2 g3).plain
      rw [List.all_cons, Bool.and_eq_true] at hp
      refine wpAny_Call_Name_kw (ld_glob I0 hg hm ?_ hdb)
      refine PySem.W.callWith_KW (h₀ := X.base) I0.ok.mod.kin hk k1 (thn ((All3.cons g1 g2 g3).pa.run pos pins s σ H _ I0 go) fun us s1 ⟨vs, H1, I1, rv, ql, q⟩ => ?_) (by rw [star_cons hp.1]; simp only [backTo, List.map_cons, List.any_cons, Bool.false_or]; rw [k3, Bool.or_false]; exact star_none hp.2) (star_cons hp.1 _ _)
      have lu : us.length = _ := rv.length.symm.trans (ql.trans l1)
      refine thn (pk.run pos pins s1 σ H1 _ I1 q) fun ws s2 ⟨zs, H2, I2, rz, zl, q2⟩ => ⟨I2.kIn, ?_⟩
      rw [k2, zk ws (by rw [← rz.length, zl, l2, List.length_map])]
      exact nz (us := us) (ws := ws) (vs := vs) (zs := zs) (pr := q2) I2 rv rz lu
theorem s_call {k : Nat} {x : Str} {pp : Pos} {ps : List Str} {as : List E} {es : List Expr} {kws : List Keyword} (Fa : FnAt XR (T k) X x ps) (gd : X.A.guards = some []) (tk : Takes X W) (hg : Gl X x) (hdb : (x == ("__debug__" : Str)) = false) (h : All3 X T XR W as (es ++ kws.map (·.value)))
    (hkw : kws.map (·.arg) = ((ps.drop es.length).take kws.length).map some) (hl : kws = [] ∨ es.length + kws.length = ps.length) : PE X (.Call (.Name x pp) es kws pos) (den T XR W (.call k as)) := by
  refine peOf (s_callG Fa gd tk hg hdb h hkw hl) fun σ H Q ⟨F, st, I, w⟩ => ?_
  simp only [ev] at w
  refine ⟨F, st, I, w.bind fun xs s1 H1 _ p I1 q => ⟨s1, I1, ?_⟩⟩
  cases e : T k xs s1.g with
  | ret d g => rw [e] at q; exact q
  | retG kd g => rw [e] at q; exact q.elim
  | exc c fs g => rw [e] at q; exact q
  | bad => rw [e] at q; exact q
/-! ### the shared dicts -/
theorem getK_run {H : Hp} {k : Key} : ∀ {kd : Gd} {kvs : List (Key × V)} {d : D}, kvs.map (·.1) = kd.map (·.1) → RepL H (kd.map (·.2)) (kvs.map (·.2)) → getK kd k = some d → ∃ v, valV kvs k = some v ∧ Rep H d v
  | [], kvs, d, e, r, h => by simp [getK] at h
  | (k', d') :: kd, [], d, e, r, h => by simp at e
  | (k', d') :: kd, (k2, v2) :: kvs, d, e, r, h => by
    simp only [List.map_cons, List.cons.injEq] at e
    simp only [List.map_cons, RepL] at r
    obtain ⟨v, r', e2, h1, h2⟩ := r
    cases e2
    obtain ⟨rfl, e⟩ := e
    unfold getK at h
    rw [List.find?_cons] at h
    unfold valV
    rw [List.find?_cons]
    by_cases z : k2 = k
    · simp only [z, decide_true] at h ⊢
      cases h
      exact ⟨v2, rfl, h1⟩
    · simp only [z, decide_false] at h ⊢
      exact getK_run e h2 h
theorem s_gget {i : Nat} {x : Str} {k : Key} {p1 : Pos} {ek : Expr} (hN : X.N[i]? = some x) (hv : Vis X.env.scope x) (hd : (x == ("__debug__" : Str)) = false) (hcd : (x == ("__classdict__" : Str)) = false) (hu : X.A.units + 1 < cLine)
    (hk : PE X ek (tC (kV k))) (hp : plainE ek = true) : PE X (.Subscript (.Name x p1) ek pos) (den T XR W (.gget i k)) := by
  refine peOf (pe_dget hu (pe_var hN hv hd hcd) hk (by intro o i; cases ek <;> first | rfl | (simp [plainE] at hp))) fun σ H Q ⟨F, st, I, h⟩ => ?_
  simp only [ev] at h
  split at h
  · rename_i j ej
    split at h
    · rename_i kd ekd
      unfold ofOpt at h
      split at h
      · rename_i d ed
        obtain ⟨y, h1, h2⟩ := I.slot i _ ej
        obtain ⟨a, rfl, h3⟩ := h2
        obtain ⟨kvs, q1, q2, q3⟩ := I.glob j kd a ekd h3
        obtain ⟨v, z1, z2⟩ := getK_run q2 q3 ed
        exact ⟨.ref a, h1, a, v, rfl, .inl ⟨kvs, k, .inl q1, rfl, z1.symm⟩, h H (Pers.refl H) I v z2⟩
      · exact h.elim
    · exact h.elim
  · exact h.elim
/-! ### open lists changed by their methods -/
theorem pers_upd {H : Hp} {a : Addr} {u o : HO} (h : H a = some u) (mu : Mut (some u)) : Pers H (upd H a o) := by
  refine ⟨fun b xs q => ?_, fun b o w q => ?_⟩
  · rw [upd_ne (fun z => by rw [z, h] at q; cases q; exact mu)]; exact q
  · rw [upd_ne (fun z => by rw [z, h] at q; cases q; exact mu)]; exact q
theorem SI.turn {F : Fx} {σ : L2.St} {st : Sx} {H : Hp} {i : Nat} {xs ys : List D} {a : Addr} {vs us : List V} (I : SI F σ st H) (e : st.r[i]? = some (.own xs)) (es : σ[i]? = some (some (.ref a))) (h : H a = some (.lst vs)) (r : RepL H ys us) :
    SI F σ ⟨st.r.set i (.own ys), st.g⟩ (upd H a (.lst us)) := by
  have p : Pers H (upd H a (.lst us)) := pers_upd h trivial
  obtain ⟨f1, f2, f3⟩ := I.fresh i xs a e es
  have hi : i < st.r.length := (List.getElem?_eq_some_iff.mp e).1
  have back : ∀ (j : Nat) (z : List D), (st.r.set i (.own ys))[j]? = some (.own z) → ∃ z', st.r[j]? = some (.own z') := by
    intro j z hz
    by_cases hj : i = j
    · subst hj; exact ⟨xs, e⟩
    · rw [List.getElem?_set_ne hj] at hz; exact ⟨z, hz⟩
  refine ⟨fun j x hx => ?_, fun j k x y b h1 h2 h3 h4 => ?_, fun j x b h1 h2 => ?_, fun b o h1 h2 => ?_, I.glen, fun k kd b h1 h2 => ?_, I.gone, fun q hq => ?_, I.hfr⟩
  · by_cases hj : i = j
    · subst hj
      rw [List.getElem?_set_self hi] at hx
      cases hx
      exact ⟨_, es, a, us, rfl, upd_same, RepL.pers p _ _ r⟩
    · have hx' : st.r[j]? = some x := by rw [← hx]; exact (List.getElem?_set_ne hj).symm
      obtain ⟨y, h1, h2⟩ := I.slot j x hx'
      refine ⟨y, h1, ?_⟩
      cases x with
      | none => trivial
      | val d => obtain ⟨v, e1, e2⟩ := h2; exact ⟨v, e1, Rep.pers p _ _ e2⟩
      | own ds =>
        obtain ⟨b, ws, e1, e2, e3⟩ := h2
        refine ⟨b, ws, e1, ?_, RepL.pers p _ _ e3⟩
        rw [upd_ne]
        · exact e2
        · intro z
          subst z
          exact hj (I.one i j xs ds b e hx' es (by rw [h1, e1]))
      | glb k => exact h2
  · obtain ⟨x', g1⟩ := back j x h1
    obtain ⟨y', g2⟩ := back k y h2
    exact I.one j k x' y' b g1 g2 h3 h4
  · obtain ⟨x', g1⟩ := back j x h1
    exact I.fresh j x' b g1 h2
  · rw [upd_ne (fun z => by rw [z, f1] at h1; cases h1)]
    exact I.keep b o h1 h2
  · obtain ⟨kvs, q1, q2, q3⟩ := I.glob k kd b h1 h2
    refine ⟨kvs, ?_, q2, RepL.pers p _ _ q3⟩
    rw [upd_ne (fun z => f2 (by rw [← z]; exact List.mem_of_getElem? h2))]
    exact q1
  · obtain ⟨ws, q1, q2⟩ := I.hid q hq
    exact ⟨ws, by rw [upd_ne (f3 q hq)]; exact q1, RepL.pers p _ _ q2⟩
end
end Rf

set_option Elab.async false
set_option linter.all false
set_option maxRecDepth 100000
set_option maxHeartbeats 4000000
namespace Rf
open PySem PySem.Spec PyProof.Rows L2

theorem RepL.set_erase {H : Hp} : ∀ {ds : List D} {vs : List V} (k : Nat), RepL H ds vs → RepL H (ds.eraseIdx k) (vs.eraseIdx k)
  | [], vs, k, h => by simp only [RepL] at h; subst h; simp [RepL]
  | d :: ds, vs, 0, h => by
    simp only [RepL] at h
    obtain ⟨v, r, rfl, h1, h2⟩ := h
    simpa using h2
  | d :: ds, vs, k + 1, h => by
    simp only [RepL] at h
    obtain ⟨v, r, rfl, h1, h2⟩ := h
    simp only [List.eraseIdx_cons_succ, RepL]
    exact ⟨v, _, rfl, h1, RepL.set_erase k h2⟩
theorem RepL.dropLast {H : Hp} {ds : List D} {vs : List V} (h : RepL H ds vs) : RepL H ds.dropLast vs.dropLast := by
  rw [List.dropLast_eq_take, List.dropLast_eq_take, h.len]
  exact h.take _
/-- a method of an open list -/
def rMut (m : MutK) : V → List V → Hp → VK → Prop := fun x us H Q => ∃ a vs xs ds d ys, x = .ref a ∧ H a = some (.lst vs) ∧ RepL H xs vs ∧ RepL H ds us ∧ m.ap xs ds = some (d, ys) ∧
  ∀ v vs', Rep H d v → RepL H ys vs' → Q v (upd H a (.lst vs'))
section
variable {X : Cx}
theorem m_append : MtR X "list.append" (rMut .append) := by
  intro pins s σ H x us v uv Q I rx rv h
  obtain ⟨a, vs, xs, ds, d, ys, rfl, hH, r1, r2, e, k⟩ := h
  cases ds with
  | nil => simp only [MutK.ap] at e; cases e
  | cons d1 ds =>
    cases ds with
    | cons d2 ds => simp only [MutK.ap] at e; cases e
    | nil =>
      obtain ⟨u, rfl, ru⟩ := r2.one
      simp only [MutK.ap] at e
      split at e
      · rename_i hz
        cases e
        refine mt_append pins s σ H _ _ v uv Q I rx rv ⟨a, vs, u, rfl, rfl, hH, by rw [sz_big, ← r1.len]; exact hz, k _ _ rfl (r1.append ?_)⟩
        simp only [RepL]
        exact ⟨u, [], rfl, ru, rfl⟩
      · cases e
theorem m_extend : MtR X "list.extend" (rMut .extend) := by
  intro pins s σ H x us v uv Q I rx rv h
  obtain ⟨a, vs, xs, ds, d, ys, rfl, hH, r1, r2, e, k⟩ := h
  cases ds with
  | nil => simp only [MutK.ap] at e; cases e
  | cons d1 ds =>
    cases ds with
    | cons d2 ds => cases d1 <;> simp only [MutK.ap] at e <;> cases e
    | nil =>
      obtain ⟨u, rfl, ru⟩ := r2.one
      cases d1 <;> simp only [MutK.ap] at e <;> try (cases e; done)
      rename_i zs
      split at e
      · rename_i hz
        cases e
        simp only [Rep] at ru
        obtain ⟨b, o, ws, rfl, hb, r3⟩ := ru
        have l1 := r1.len
        have l3 := r3.len
        cases rx
        obtain ⟨u, rfl, ru⟩ := rv.one
        cases ru
        obtain ⟨z, its, n, ra, hl, e1⟩ := I.lstM hH
        obtain ⟨z2, its2, n2, rb, e2⟩ := (show L2.Rd H b (.lst ws) from .inr ⟨o, hb⟩).ok I.hok
        have hl2 := rb.length
        have zb := sz_big
        have hsz : its.toArray.size + its2.toArray.size ≤ sizeLine := by rw [List.size_toArray, List.size_toArray]; omega
        have hlong : ¬ (!its.toArray.isEmpty && Builtin.List.listTooLong (its.toArray.size + its2.toArray.size)) = true := by
          rw [notLongL hsz]; simp
        refine call_meets F.slot_list_extend ⟨_, e1, rfl⟩ F.entry_list_extend (F.args_list_extend_2 _ _)
          (AutoSeq1.list_extend_list_list_0 a its.toArray n b its2.toArray n2 hlong (by rw [List.size_toArray]; omega) (by omega)) ⟨e1, e2, ?_⟩
        exact ⟨.non, _, I.lset (its' := its ++ its2) hH e1 (by simp) (ra.append rb) (by rw [List.length_append]; omega), rfl, k _ _ rfl (r1.append r3)⟩
      · cases e
theorem m_pop : MtR X "list.pop" (rMut .pop) := by
  intro pins s σ H x us v uv Q I rx rv h
  obtain ⟨a, vs, xs, ds, d, ys, rfl, hH, r1, r2, e, k⟩ := h
  cases ds with
  | nil => simp only [MutK.ap] at e; cases e
  | cons d1 ds =>
    cases ds with
    | cons d2 ds => cases d1 <;> simp only [MutK.ap] at e <;> cases e
    | nil =>
      obtain ⟨u, rfl, ru⟩ := r2.one
      cases d1 <;> simp only [MutK.ap] at e <;> try (cases e; done)
      rename_i i
      cases ru
      split at e
      · rename_i j ej
        cases q : xs[j]? with
        | none => rw [q] at e; cases e
        | some y =>
          rw [q] at e
          cases e
          obtain ⟨w', q1, q2⟩ := r1.get q
          rw [r1.len] at ej
          obtain ⟨g1, g2, g3, g4⟩ := ixN_seq ej
          have z := (I.hok a _ hH).1
          have zb := sz_big
          have bg : big < 2 ^ 63 := by decide
          exact mt_popAt pins s σ H _ _ v uv Q I rx rv ⟨a, vs, i, j, w', rfl, rfl, hH, by omega, by omega, g1, q1, k _ _ q2 (r1.set_erase j)⟩
      · cases e
theorem m_popLast : MtR X "list.pop" (rMut .popLast) := by
  intro pins s σ H x us v uv Q I rx rv h
  obtain ⟨a, vs, xs, ds, d, ys, rfl, hH, r1, r2, e, k⟩ := h
  cases ds with
  | cons d1 ds => simp only [MutK.ap] at e; cases e
  | nil =>
    simp only [RepL] at r2
    subst r2
    simp only [MutK.ap] at e
    cases q : xs[xs.length - 1]? with
    | none => rw [q] at e; cases e
    | some y =>
      rw [q] at e
      cases e
      obtain ⟨w', q1, q2⟩ := r1.get q
      exact mt_pop pins s σ H _ _ v uv Q I rx rv ⟨a, vs, w', rfl, rfl, hH, by rw [← r1.len]; exact q1, k _ _ q2 r1.dropLast⟩
variable {T : Tbl} {XR : Hp → Nat → List D → Value → Option Addr → Prop} {W : WX} {a b c m : E} {ea eb ec e : Expr} {pos : Pos}
theorem mutGo {mk : MutK} {i : Nat} {as : List E} {σ : L2.St} {H : Hp} {Q : VK} (hn : (as.all fun a => a.isOwn.isNone) = true) (h : den T XR W (.mutl mk i as) σ H Q) :
    tVar i σ H fun x H1 => tyV X.K "list" x H1 ∧ tL T XR W as σ H1 fun us H2 => rMut mk x us H2 Q := by
  obtain ⟨F, st, I, h⟩ := h
  simp only [ev] at h
  split at h
  · rename_i xs ex
    obtain ⟨p, vs, q1, q2, q3⟩ := I.own ex
    refine ⟨.ref p, q1, ?_, args as st H _ I (h.bind fun ds s1 H1 _ pp I1 q us ru => ?_)⟩
    · exact Or.inl ⟨rfl, _, Or.inl (Or.inl q2)⟩
    · split at q
      · rename_i ys ey
        obtain ⟨p', vs', g1, g2, g3⟩ := I1.own ey
        rw [q1] at g1
        cases g1
        split at q
        · rename_i d zs ez
          refine ⟨p, vs', ys, ds, d, zs, rfl, g2, g3, ru.rep hn, ez, fun v ws rd rr => ?_⟩
          exact q _ (pers_upd g2 trivial) (I1.turn ey q1 g2 rr) v (Rep.pers (pers_upd g2 trivial) _ _ rd)
        · exact q.elim
      · exact q.elim
  · exact h.elim
theorem s_mut {mk : MutK} {id : String} {name : Str} {i : Nat} {x : Str} {p1 apos : Pos} {as : List E} {es : List Expr} (hm : MtR X id (rMut mk)) (pa : PlainAttrs "list") (slot : PySem.Slot "list" name id) (hty : typeOf (.builtin id) = pure (.type "method_descriptor"))
    (hN : X.N[i]? = some x) (hv : Vis X.env.scope x) (hd : (x == ("__debug__" : Str)) = false) (hcd : (x == ("__classdict__" : Str)) = false) (hn : (as.all fun a => a.isOwn.isNone) = true) (h : All2 X T XR W as es)
    (hline : (apos.endLine == pos.line) = true) (hl : es.length < 30) : PE X (.Call (.Attribute (.Name x p1) name apos) es [] pos) (den T XR W (.mutl mk i as)) := by
  have hp := h.plain
  have hpa := h.pa
  cases h with
  | nil => exact peOf (pe_bm0 pa slot hty hm (pe_var hN hv hd hcd) (base_plain rfl _ _) hline) fun σ H Q w => mutGo (X := X) hn w
  | cons h1 h2 h3 =>
    have hp' := hp
    rw [List.all_cons, Bool.and_eq_true] at hp'
    exact peOf (pe_bm pa slot hty hm (pe_var hN hv hd hcd) hpa (base_plain rfl _ _) (star_few hp hl) hline (star_cons hp'.1 _ _) (star_none hp'.2)) fun σ H Q w => mutGo (X := X) hn w
/-! ### a method of data -/
def tyP2 : P → String
  | .get => "dict"
  | .index => "list"
  | _ => "str"
theorem fits_ty {pins : List (Addr × Obj)} {σ : L2.St} {H : Hp} {s : Shared} {p : P} {d : D} {x : V} {v : Value} (I : Inv X pins σ H s) (rx : RelV x v) (h : Rep H d x) (hf : p.fits d = true) :
    s.TypeIs v (tyP2 p) ∧ ∀ a, v = .ref a → ∃ ob, s.heap.get? a = some ob ∧ ob.dict = none := by
  cases p <;> cases d <;> simp only [P.fits] at hf <;> try (cases hf; done)
  · simp only [Rep] at h
    obtain ⟨b, o, vs, rfl, g1, g2⟩ := h
    exact tyV_is I rx (T := "list") (Or.inl ⟨rfl, vs, .inl (.inr ⟨o, g1⟩)⟩)
  · simp only [Rep] at h
    obtain ⟨b, o, kvs, rfl, g1, g2⟩ := h
    cases rx
    obtain ⟨t1, t2, _⟩ := isD_at I (.inl ⟨kvs, .inr ⟨o, g1⟩⟩)
    exact ⟨t1, t2⟩
  · obtain ⟨rfl, _⟩ := h
    exact tyV_is I rx (T := "str") rfl
def tMth (T : Tbl) (XR : Hp → Nat → List D → Value → Option Addr → Prop) (W : WX) (p : P) (a : E) (es : List E) : TE := fun σ H Q => den T XR W a σ H fun x H1 => (∃ d, Rep H1 d x ∧ p.fits d = true) ∧ tL T XR W es σ H1 fun xs H2 => rm Old p x xs H2 Q
theorem mthGo {p : P} {as : List E} {σ : L2.St} {H : Hp} {Q : VK} (hn : (as.all fun a => a.isOwn.isNone) = true) (h : den T XR W (.mth p a as) σ H Q) : tMth T XR W p a as σ H Q := by
  obtain ⟨F, st, I, h⟩ := h
  simp only [ev] at h
  refine ⟨F, st, I, h.bind fun d s0 H0 _ p0 I0 q v rv => ?_⟩
  split at q
  · rename_i hf
    refine ⟨⟨d, rv, hf⟩, args as s0 H0 _ I0 (q.bind fun ds s1 H1 _ p1 I1 q us ru => ⟨d, ds, Rd.of (Rep.pers p1 _ _ rv), ru.rep hn, hf, ?_⟩)⟩
    unfold ofOpt at q
    split at q
    · rename_i r er
      exact ⟨r, er, fun v H' sm rr => q H' (Pers.of_same sm) (I1.same sm) v rr⟩
    · exact q.elim
  · exact q.elim
theorem s_mth {p : P} {id : String} {name : Str} {o : Expr} {apos : Pos} {as : List E} {es : List Expr} (hm : MtR X id (rm Old p)) (pa : PlainAttrs (tyP2 p)) (slot : PySem.Slot (tyP2 p) name id) (hty : typeOf (.builtin id) = pure (.type "method_descriptor"))
    (ho : PE X o (den T XR W a)) (hr : recvE o = true) (hn : (as.all fun a => a.isOwn.isNone) = true) (h : All2 X T XR W as es) (hline : (apos.endLine == pos.line) = true) (hl : es.length < 30) : PE X (.Call (.Attribute o name apos) es [] pos) (den T XR W (.mth p a as)) := by
  have hp := h.plain
  have hpa := h.pa
  cases h with
  | nil =>
    refine ⟨fun pins s σ H Q I w => wpAny_Call_method0_late (base_plain hr _ _) hline (thn (ho.run pins s σ H _ I (mthGo hn w)) fun v s1 ⟨x, H1, I1, r1, ⟨d, g1, g2⟩, q⟩ => ?_)⟩
    obtain ⟨t1, t2⟩ := fits_ty I1 r1 g1 g2
    exact ⟨_, id, pa, slot, hty, t1, t2, Calls.callWith_builtin rfl (PySem.evalArgs_none (hm pins s1 σ H1 x [] v [] Q I1 r1 .nil q))⟩
  | cons h1 h2 h3 =>
    have hp' := hp
    rw [List.all_cons, Bool.and_eq_true] at hp'
    have he := star_cons hp'.1
    refine ⟨fun pins s σ H Q I w => wpAny_Call_method_late (base_plain hr _ _) (star_few hp hl) hline rfl (thn (ho.run pins s σ H _ I (mthGo hn w)) fun v s1 ⟨x, H1, I1, r1, ⟨d, g1, g2⟩, q⟩ => ?_)⟩
    obtain ⟨t1, t2⟩ := fits_ty I1 r1 g1 g2
    refine ⟨_, id, pa, slot, hty, t1, t2, ?_⟩
    have run := hpa.run pos pins s1 σ H1 _ I1 q
    rw [he] at run ⊢
    refine Calls.callWith_builtin ?_ (Calls.evalArgs_plain (thn run fun us s2 ⟨vs, H2, I2, r2, q2⟩ => hm pins s2 σ H2 x vs v us Q I2 r1 r2 q2))
    show (false || (backTo pos (starEach _ X.env)).any (·.1)) = false
    rw [star_none hp'.2]; rfl
/-! ### two comparisons in a row -/
theorem chainGo {p q : P} {σ : L2.St} {H : Hp} {Q : VK} (h : den T XR W (.chain p q a b c) σ H Q) : tChain (r2 Old p) (r2 Old q) (den T XR W a) (den T XR W b) (den T XR W c) σ H Q := by
  obtain ⟨F, st, I, w⟩ := h
  simp only [ev] at w
  refine ⟨F, st, I, w.bind fun d1 s1 H1 _ p1 I1 w1 v1 r1 => ⟨F, s1, I1, w1.bind fun d2 s2 H2 _ p2 I2 w2 v2 rr2 => ?_⟩⟩
  have r1' := Rep.pers p2 _ _ r1
  split at w2
  · rename_i e
    refine ⟨d1, d2, Rd.of r1', Rd.of rr2, _, e, fun v H' sm rv => ⟨true, rv, ?_⟩⟩
    rw [if_pos rfl]
    refine ⟨F, s2, I2.same sm, (w2.weak (Pers.of_same sm)).bind fun d3 s3 H3 _ p3 I3 w3 v3 r3 => ?_⟩
    unfold ofOpt at w3
    split at w3
    · rename_i d e3
      exact ⟨d2, d3, Rd.of (Rep.pers p3 _ _ (Rep.pers (Pers.of_same sm) _ _ rr2)), Rd.of r3, d, e3, fun v H' sm rv => w3 H' (Pers.of_same sm) (I3.same sm) v rv⟩
    · exact w3.elim
  · rename_i e
    refine ⟨d1, d2, Rd.of r1', Rd.of rr2, _, e, fun v H' sm rv => ⟨false, rv, ?_⟩⟩
    rw [if_neg (by decide)]
    exact w2 H' (Pers.of_same sm) (I2.same sm) _ rfl
  · exact w2.elim
theorem s_chain {p q : P} {o1 o2 : CmpOp} (h1 : OpR X (compareOp o1) (r2 New p)) (h2 : OpR X (compareOp o2) (r2 New q)) (ha : PE X ea (den T XR W a)) (hb : PE X eb (den T XR W b)) (hc : PE X ec (den T XR W c)) (hp : plainE ec = true) :
    PE X (.Compare ea [o1, o2] [eb, ec] pos) (den T XR W (.chain p q a b c)) :=
  peOf (pe_chain (OpR.froze h1) (OpR.froze h2) ha hb hc (by show behindInMarks o2 ec = false; exact mark_plain hp _)) fun σ H Q w => chainGo w
end
end Rf

set_option Elab.async false
set_option linter.all false
set_option maxRecDepth 100000
set_option maxHeartbeats 4000000
namespace Rf
open PySem PySem.Spec PyProof.Rows L2

section
variable {X : Cx} {T : Tbl} {XR : Hp → Nat → List D → Value → Option Addr → Prop} {W : WX} {a b c m : E} {ea eb ec e : Expr} {pos : Pos}
/-! ### slices with a step -/
theorem rev_pick {α : Type} (xs : List α) : ((List.range xs.length).filterMap fun (m : Nat) => xs[((xs.length : Int) - 1 + (m : Int) * (-1)).toNat]?) = xs.reverse := by
  have gen : ∀ k, k ≤ xs.length → ((List.range k).filterMap fun (m : Nat) => xs[((xs.length : Int) - 1 + (m : Int) * (-1)).toNat]?) = xs.reverse.take k := by
    intro k
    induction k with
    | zero => intro _; simp
    | succ k ih =>
      intro hk
      rw [List.range_succ, List.filterMap_append, ih (by omega), List.take_add_one]
      congr 1
      have e : ((xs.length : Int) - 1 + (k : Int) * (-1)).toNat = xs.length - 1 - k := by omega
      rw [List.getElem?_reverse (by omega)]
      simp only [List.filterMap_cons, List.filterMap_nil, e]
      cases xs[xs.length - 1 - k]? <;> rfl
  rw [gen _ (Nat.le_refl _), List.take_of_length_le (by simp)]
theorem applied_rev {prog : Program} {w : World} {A : Around} {E : Value → Shared → Prop} {s : Shared} {sl : Addr} {n : Nat} {vs : Value} {Q : Int × Int × Nat → Shared → Prop} (hs : s.heap.IsSliceOf sl .none .none vs) (ps : IsPart vs (some (-1)))
    (h : Q ((n : Int) - 1, -1, n) s) : wpAny (model prog w) A (Builtin.Slice.sliceApplied (.ref sl) (pure (n : Int))) Q E s := by
  obtain ⟨os, hos, hcs, hds⟩ := hs
  unfold Builtin.Slice.sliceApplied Builtin.Slice.sliceFields
  refine wpAny_bind (wpAny_bind (wpAny_field hos hds (x := .none) rfl (wpAny_bind (wpAny_field hos hds (x := .none) rfl (wpAny_bind (wpAny_field hos hds (x := vs) rfl (wpAny_pure ?_)))))))
  refine wpAny_bind (HT.slicePart_ ps ?_)
  show wpAny _ _ (if ((-1 : Int) == 0) = true then _ else _) _ _ s
  rw [if_neg (by decide)]
  refine wpAny_bind (HT.slicePart_ .none (wpAny_bind (HT.slicePart_ .none (wpAny_bind (wpAny_pure (wpAny_pure ?_))))))
  have e1 : Builtin.Slice.sliceAdjust none none (-1) (n : Int) = ((n : Int) - 1, -1) := by
    unfold Builtin.Slice.sliceAdjust
    simp
  have e2 : Builtin.Slice.slicePlaces ((n : Int) - 1) (-1) (-1) = n := by
    unfold Builtin.Slice.slicePlaces
    simp
    omega
  show Q ((Builtin.Slice.sliceAdjust none none (-1) (n : Int)).1, -1, Builtin.Slice.slicePlaces (Builtin.Slice.sliceAdjust none none (-1) (n : Int)).1 (Builtin.Slice.sliceAdjust none none (-1) (n : Int)).2 (-1)) s
  rw [e1]
  show Q ((n : Int) - 1, -1, Builtin.Slice.slicePlaces ((n : Int) - 1) (-1) (-1)) s
  rw [e2]
  exact h
theorem tuple_rev {prog : Program} {w : World} {A : Around} {E : Value → Shared → Prop} {s : Shared} {t sl : Addr} {items : Array Value} {vs : Value} {Q : Value → Shared → Prop} (ht : IsTup s.heap t items) (hs : s.heap.IsSliceOf sl .none .none vs) (ps : IsPart vs (some (-1)))
    (h : Q (.ref s.heap.objs.size) { s with heap := s.heap.push { cls := .type "tuple", data := .seq items.toList.reverse.toArray } }) (hsz : items.size ≤ sizeLine) : wpAny (model prog w) A (getItem (.ref t) (.ref sl)) Q E s := by
  have fits : sizeOk (.seq items.toList.reverse.toArray) := by
    show items.toList.reverse.toArray.size ≤ sizeLine
    simpa using hsz
  obtain ⟨os, hos, hcs, hds⟩ := id hs
  have isl : s.TypeIs (.ref sl) "slice" := ⟨os, hos, hcs⟩
  have pk : ((List.range items.size).filterMap fun (m : Nat) => items[((items.size : Int) - 1 + (m : Int) * (-1)).toNat]?).toArray = items.toList.reverse.toArray := by
    have := rev_pick items.toList
    rw [Array.length_toList] at this
    rw [← this]
    simp
  unfold getItem
  refine wpAny_holding ?_
  refine wpAny_bind (wpAny_sequenceKey ht.typeIs (by decide) ?_)
  have sl_ := PyProof.Rows.slot_tuple_getitem
  refine wpAny_bind (wpAny_callSpecial?_slot (name := Str.ofString "__getitem__") ht.typeIs sl_ (wpAny_call_entry sl_ ht.typeIs entry_tuple_getitem ?_ (args_tuple_getitem _ _)))
  show wpAny (model prog w) _ (Builtin.Tuple.tupleItemsOf (.ref t) >>= _) _ E s
  refine wpAny_bind (tupleItemsOf_ (prog := prog) (w := w) ht ?_)
  refine wpAny_bind (wpAny_typeOf isl ?_)
  rw [if_pos (by decide)]
  refine wpAny_bind (applied_rev hs ps ?_)
  have no : ¬ (((((items.size : Int) - 1) == 0 && (-1 : Int) == 1 && items.size == items.size)) = true) := by simp
  show wpAny _ _ (if ((((items.size : Int) - 1) == 0 && (-1 : Int) == 1 && items.size == items.size)) = true then _ else _) _ _ s
  rw [if_neg no, pk]
  first
    | exact wpAny_bind (m := Builtin.Tuple.tupleExact _) (wpAny_newObj_type (wpAny_pure ⟨_, rfl, wpAny_pure h⟩) fits)
    | exact wpAny_bind (wpAny_bind (m := Builtin.Tuple.tupleExact _) (wpAny_newObj_type (wpAny_pure ⟨_, rfl, wpAny_pure h⟩) fits))
theorem RepL.pick {H : Hp} {ds : List D} {vs : List V} (r : RepL H ds vs) : ∀ is : List Nat, RepL H (is.filterMap (ds[·]?)) (is.filterMap (vs[·]?))
  | [] => by simp [RepL]
  | i :: is => by
    have ih := RepL.pick r is
    rw [List.filterMap_cons, List.filterMap_cons]
    cases e : ds[i]? with
    | none =>
      have : vs[i]? = none := by rw [List.getElem?_eq_none_iff] at e ⊢; have := r.len; omega
      rw [this]; exact ih
    | some d =>
      obtain ⟨v, e2, h⟩ := r.get e
      rw [e2]
      simp only [RepL]
      exact ⟨_, _, rfl, h, ih⟩
theorem vals_pick {vs : List V} {us : List Value} (r : Vals vs us) : ∀ is : List Nat, Vals (is.filterMap (vs[·]?)) (is.filterMap (us[·]?))
  | [] => .nil
  | i :: is => by
    have ih := vals_pick r is
    rw [List.filterMap_cons, List.filterMap_cons]
    cases e : vs[i]? with
    | none => rw [r.none_of e]; exact ih
    | some d =>
      obtain ⟨v, e2, h⟩ := r.get e
      rw [e2]
      exact .cons h ih
theorem vals_rev : ∀ {vs : List V} {us : List Value}, Vals vs us → Vals vs.reverse us.reverse
  | _, _, .nil => .nil
  | _, _, .cons h t => by
    rw [List.reverse_cons, List.reverse_cons]
    exact (vals_rev t).append (.cons h .nil)
theorem st_step {pins : List (Addr × Obj)} {s : Shared} {σ : L2.St} {H : Hp} {x : V} {v vl vs : Value} {lo : Option Int} {k : Int} {sl : Addr} {Q : VK} {d : D} (I : Inv X pins σ H s) (rx : RelV x v) (hs : s.heap.IsSliceOf sl vl .none vs) (pl : IsPart vl lo) (ps : IsPart vs (some k))
    (h : Rd H d x) (g : Got New H (stpD d lo k) Q) : ∃ T id, typeLookup (.type T) "__getitem__" = pure (some (.builtin id)) ∧ s.TypeIs v T ∧ wpAny (model X.prog X.w) X.A (getItem v (.ref sl)) (EP X pins σ Q) X.xe s := by
  obtain ⟨r, hr, kk⟩ := g
  cases d <;> simp only [stpD] at hr <;> try (cases hr; done)
  · rename_i z
    split at hr
    · rename_i hc
      obtain ⟨rfl, rfl⟩ := hc
      cases hr
      simp only [Rd, Rep] at h
      obtain ⟨b, ws, rfl, g1, g2⟩ := h
      cases rx
      cases pl
      obtain ⟨us, rv, p, hz⟩ := I.tuple (SqT.of g1)
      have hp := I.fresh
      have sm := same_upd (o := .tup ws.reverse) hp
      refine ⟨"tuple", _, PyProof.Rows.slot_tuple_getitem.lookup, p.typeIs, tuple_rev p hs ps ?_ (by rw [List.size_toArray, ← rv.length]; exact hz)⟩
      refine ⟨.ref _, _, I.laid (t' := s.toks) (o := .tup ws.reverse) (fun _ _ q => Heap.get?_push_of_some _ q) (Nat.le_refl _) ⟨by rw [List.length_reverse]; exact hz, us.reverse, ?_, ?_⟩, rfl, kk _ _ sm ?_⟩
      · exact vals_rev rv
      · exact IsTup.new s.heap _
      · simp only [New, Rep]
        exact ⟨_, _, rfl, upd_same, RepL.pers (Pers.of_same sm) _ _ g2.reverse⟩
    · cases hr
  · rename_i z
    split at hr
    · rename_i hk
      cases hr
      obtain ⟨b, ws, rfl, g1, g2⟩ := h
      cases rx
      obtain ⟨its, rv, ht, hz⟩ := I.list (X := X) (show SqL X.K H b ws from .inl g1)
      have hp := I.fresh
      have lz := g2.len
      have lv := rv.length
      have e1 : stpL ws lo k = ((sliceRange (sliceBounds lo none (some k) z.length).1 (sliceBounds lo none (some k) z.length).2.1 (sliceBounds lo none (some k) z.length).2.2).filterMap (ws[·]?)) := by unfold stpL; rw [lz]
      have e2 : (slicePick its.toArray lo none (some k)).toList = ((sliceRange (sliceBounds lo none (some k) z.length).1 (sliceBounds lo none (some k) z.length).2.1 (sliceBounds lo none (some k) z.length).2.2).filterMap (its[·]?)) := by
        unfold slicePick
        simp [lz, lv]
      have rr : RepL H (stpL z lo k) (stpL ws lo k) := by
        rw [e1]
        exact g2.pick _
      have vv : Vals (stpL ws lo k) (slicePick its.toArray lo none (some k)).toList := by
        rw [e1, e2]
        exact vals_pick rv _
      have sm := same_upd (o := .lst (stpL ws lo k)) hp
      refine ⟨"list", _, PySem.slot_list_getitem.lookup, ht.isList.typeIs, ?_⟩
      refine wpAny_getItem_list_slice ht.isList hs pl .none ps (by simpa using hk.1) ?_ (by rw [List.size_toArray, ← lv]; exact hz)
      refine ⟨.ref _, _, I.laid (t' := s.toks) (o := .lst (stpL ws lo k)) (fun _ _ q => Heap.get?_push_of_some _ q) (Nat.le_refl _) ⟨?_, _, 0, vv, Heap.get?_push_size _ rfl⟩, rfl, kk _ _ sm ⟨_, _, rfl, hp, upd_same, RepL.pers (Pers.of_same sm) _ _ rr⟩⟩
      rw [← rr.len, sz_big]; exact hk.2
    · cases hr
def stepE (k : Int) : Expr → Bool
  | .Constant (.int i) _ _ => i == k
  | .UnaryOp .USub (.Constant (.int i) _ _) _ => -i == k
  | _ => false
theorem step_po {k : Int} {es : Expr} (h : stepE k es = true) : PO X (some es) (fun _ H Q => Q (some k) H) := by
  unfold stepE at h
  split at h
  · rename_i i j p
    obtain rfl := eq_of_beq h
    exact ⟨fun pins s σ H Q I w => (po_some (pe_int (X := X) (i := i) (j := j) (pos := p))).run pins s σ H Q I ⟨i, rfl, w⟩⟩
  · rename_i i j p p2
    obtain rfl := eq_of_beq h
    have un : PO X (some (.UnaryOp .USub (.Constant (.int i) j p) p2)) (tPart (tUn (rU fun i => .int (-i)) (tC (.int i)))) := po_some (pe_un un_neg pe_int)
    exact ⟨fun pins s σ H Q I w => un.run pins s σ H Q I ⟨i, rfl, -i, rfl, w⟩⟩
  · cases h
theorem n_stp {lo : List E} {elo : Option Expr} {es : Expr} {k : Int} {p2 : Pos} (ha : PE X ea (tE T XR W a)) (hl : PO X elo (tP T XR W lo)) (hk : stepE k es = true) : PE X (.Subscript ea (.Slice elo none (some es) p2) pos) (denN T XR W (.stp a lo k)) := by
  refine ⟨fun pins s σ H Q I0 ⟨F, st, I, h⟩ => ?_⟩
  simp only [ev] at h
  have go : tE T XR W a σ H fun x H1 => tP T XR W lo σ H1 fun o H2 => ∃ d, Rd H2 d x ∧ Got New H2 (stpD d o k) Q := by
    refine arg1 (f := fun st => evp T lo st) (g := fun d o => stpD d o k) (R := fun d H1 => ∀ v H', Same H1 H' → New H1 H' d v → Q v H') I h fun x H1 s1 p I1 q => ?_
    refine part_go I1 (q.mono fun o s2 H2 _ p2 I2 q2 => ?_)
    obtain ⟨d, h1, r, er, s4, I4, kk⟩ := q2
    exact ⟨d, h1, r, er, fun v H' sm nw => kk H2 (Pers.refl _) I4 v H' sm nw⟩
  refine Subscript_ (thn (ha.run pins s σ H _ I0 go) fun v s1 ⟨x, H1, I1, r1, q1⟩ => ?_)
  refine wpAny_Slice (thn (hl.run pins s1 σ H1 _ I1 q1) fun vl s2 ⟨l, H2, I2, pl, q2⟩ => ?_)
  refine thn ((po_none (X := X)).run pins s2 σ H2 (fun o H3 => o = none ∧ H3 = H2) I2 ⟨rfl, rfl⟩) fun vu s3 ⟨u, H3, I3, pu, eu, e3⟩ => ?_
  subst eu e3
  cases pu
  refine thn ((step_po hk).run pins s3 σ H3 (fun o H4 => o = some k ∧ H4 = H3) I3 ⟨rfl, rfl⟩) fun vs s4 ⟨o, H4, I4, ps, eo, e4⟩ => ?_
  subst eo e4
  obtain ⟨d, hd, g⟩ := q2
  have I5 : Inv X pins σ H4 { s4 with heap := s4.heap.push { cls := .type "slice", data := .fields #[vl, .none, vs] } } := I4.kept (t' := s4.toks) fun b ob q => Heap.get?_push_of_some _ q
  obtain ⟨T', id, hT, ht, hg⟩ := st_step I5 r1 (Heap.IsSliceOf.new ..) pl ps hd g
  show wpAny (model X.prog X.w) X.A (subscriptTail ea (.Slice elo none (some es) p2) v (.ref s4.heap.objs.size)) (EP X pins σ Q) X.xe _
  exact tail_any (ops := [v, .ref s4.heap.objs.size]) ht hT hg (by with_unfolding_all rfl)
end
end Rf

set_option Elab.async false
set_option linter.all false
set_option maxRecDepth 100000
set_option maxHeartbeats 4000000
namespace Rf
open PySem PySem.Spec PyProof.Rows L2

/-! ### targets -/
mutual
def Pat.vars : Pat → List Nat
  | .nm i => [i]
  | .tp ps => varsL ps
def varsL : List Pat → List Nat
  | [] => []
  | p :: ps => p.vars ++ varsL ps
end
mutual
def patG (K : PySem.W.Frag) : Pat → TG
  | .nm i => gName i
  | .tp ps => gTup K ps.length (patGs K ps)
def patGs (K : PySem.W.Frag) : List Pat → TGs
  | [] => gNil
  | p :: ps => gCons (patG K p) (patGs K ps)
end
theorem SI.put {F : Fx} {σ : L2.St} {st : Sx} {H : Hp} {i : Nat} {x : Slot} {v : V} (I : SI F σ st H) (hi : i < st.r.length) (hx : SlotRep F.l H x (some v)) (no : ∀ z, x ≠ .own z) : SI F (σ.set i (some v)) ⟨st.r.set i x, st.g⟩ H := by
  have hσ : i < σ.length := by
    obtain ⟨y, h, _⟩ := I.slot i _ (List.getElem?_eq_getElem hi)
    exact (List.getElem?_eq_some_iff.mp h).1
  have ne : ∀ {j : Nat} {z : List D}, (st.r.set i x)[j]? = some (.own z) → i ≠ j ∧ st.r[j]? = some (.own z) := by
    intro j z h
    by_cases hj : i = j
    · subst hj
      rw [List.getElem?_set_self hi] at h
      cases h
      exact absurd rfl (no z)
    · rw [List.getElem?_set_ne hj] at h
      exact ⟨hj, h⟩
  refine ⟨fun j y h => ?_, fun j k y z a h1 h2 h3 h4 => ?_, fun j y a h1 h2 => ?_, I.keep, I.glen, I.glob, I.gone, I.hid, I.hfr⟩
  · by_cases hj : i = j
    · subst hj
      rw [List.getElem?_set_self hi] at h
      cases h
      exact ⟨_, List.getElem?_set_self hσ, hx⟩
    · rw [List.getElem?_set_ne hj] at h ⊢
      exact I.slot j y h
  · obtain ⟨n1, g1⟩ := ne h1
    obtain ⟨n2, g2⟩ := ne h2
    rw [List.getElem?_set_ne n1] at h3
    rw [List.getElem?_set_ne n2] at h4
    exact I.one j k y z a g1 g2 h3 h4
  · obtain ⟨n1, g1⟩ := ne h1
    rw [List.getElem?_set_ne n1] at h2
    exact I.fresh j y a g1 h2
theorem wipe_set {σ : L2.St} {i : Nat} {x : Option V} : ∀ {vs : List Nat}, i ∈ vs → wipe (σ.set i x) vs = wipe σ vs
  | [], h => by simp at h
  | w :: vs, h => by
    show (wipe (σ.set i x) vs).set w none = (wipe σ vs).set w none
    by_cases hv : i ∈ vs
    · rw [wipe_set hv]
    · have e : i = w := by
        rcases List.mem_cons.mp h with h | h
        · exact h
        · exact absurd h hv
      subst e
      have out : ∀ {us : List Nat} {τ : L2.St}, i ∉ us → wipe (τ.set i x) us = (wipe τ us).set i x := by
        intro us
        induction us with
        | nil => intro τ _; rfl
        | cons u us ih =>
          intro τ hu
          simp only [List.mem_cons, not_or] at hu
          show (wipe (τ.set i x) us).set u none = ((wipe τ us).set u none).set i x
          rw [ih hu.2, List.set_comm _ _ hu.1]
      rw [out hv, List.set_set]
mutual
theorem bindP_run {K : PySem.W.Frag} {F : Fx} {H : Hp} {g : List Gd} : ∀ (p : Pat) (d : D) (r r' : List Slot) (v : V) (σ : L2.St) (Q : L2.St → Hp → Prop), bindP p d r = some r' → SI F σ ⟨r, g⟩ H → Rep H d v →
    (∀ σ', SI F σ' ⟨r', g⟩ H → (∀ vs, (∀ i ∈ p.vars, i ∈ vs) → wipe σ' vs = wipe σ vs) → Q σ' H) → patG K p v σ H Q
  | .nm i, d, r, r', v, σ, Q, e, I, rd, k => by
    simp only [bindP] at e
    split at e
    · rename_i hi
      cases e
      show Q (σ.set i (some v)) H
      exact k _ (I.put hi ⟨v, rfl, rd⟩ (fun z q => by cases q)) fun vs hv => wipe_set (hv i (by simp [Pat.vars]))
    · cases e
  | .tp ps, d, r, r', v, σ, Q, e, I, rd, k => by
    cases d <;> simp only [bindP] at e <;> try (cases e; done)
    rename_i ds
    simp only [Rep] at rd
    obtain ⟨a, vs, rfl, h1, h2⟩ := rd
    have hl : ps.length = ds.length := bindPs_len ps ds r r' e
    exact ⟨a, vs, rfl, SqT.of h1, by rw [← h2.len, hl], bindPs_run ps ds r r' vs σ Q e I h2 fun σ' I' w => k σ' I' fun us hu => w us (by simpa [Pat.vars] using hu)⟩
theorem bindPs_len : ∀ (ps : List Pat) (ds : List D) (r r' : List Slot), bindPs ps ds r = some r' → ps.length = ds.length
  | [], [], _, _, _ => rfl
  | [], _ :: _, _, _, e => by simp [bindPs] at e
  | _ :: _, [], _, _, e => by simp [bindPs] at e
  | p :: ps, d :: ds, r, r', e => by
    simp only [bindPs] at e
    cases q : bindP p d r with
    | none => rw [q] at e; cases e
    | some r1 =>
      rw [q] at e
      simp only [List.length_cons, bindPs_len ps ds r1 r' e]
theorem bindPs_run {K : PySem.W.Frag} {F : Fx} {H : Hp} {g : List Gd} : ∀ (ps : List Pat) (ds : List D) (r r' : List Slot) (vs : List V) (σ : L2.St) (Q : L2.St → Hp → Prop), bindPs ps ds r = some r' → SI F σ ⟨r, g⟩ H → RepL H ds vs →
    (∀ σ', SI F σ' ⟨r', g⟩ H → (∀ us, (∀ i ∈ varsL ps, i ∈ us) → wipe σ' us = wipe σ us) → Q σ' H) → patGs K ps vs σ H Q
  | [], ds, r, r', vs, σ, Q, e, I, rd, k => by
    cases ds with
    | cons d ds => simp [bindPs] at e
    | nil =>
      simp only [bindPs] at e
      cases e
      simp only [RepL] at rd
      subst rd
      exact ⟨rfl, k σ I fun _ _ => rfl⟩
  | p :: ps, ds, r, r', vs, σ, Q, e, I, rd, k => by
    cases ds with
    | nil => simp [bindPs] at e
    | cons d ds =>
      simp only [bindPs] at e
      cases q : bindP p d r with
      | none => rw [q] at e; cases e
      | some r1 =>
        rw [q] at e
        simp only [RepL] at rd
        obtain ⟨v, us, rfl, h1, h2⟩ := rd
        refine ⟨v, us, rfl, bindP_run p d r r1 v σ _ q I h1 fun σ1 I1 w1 => bindPs_run ps ds r1 r' us σ1 Q e I1 h2 fun σ2 I2 w2 => k σ2 I2 fun ws hw => ?_⟩
        rw [w2 ws fun i hi => hw i (by simp [varsL, hi]), w1 ws fun i hi => hw i (by simp [varsL, hi])]
end
theorem asg_plain {e : Expr} (h : plainE e = true) (es : List Expr) (env : Env) : assignEach (e :: es) env = (false, assign e env) :: assignEach es env := by
  cases e <;> first | rfl | (simp [plainE] at h)
theorem asg_len {env : Env} : ∀ {es : List Expr}, (assignEach es env).length = es.length
  | [] => rfl
  | e :: es => by cases e <;> simp [assignEach, asg_len (es := es)]
theorem asg_none {env : Env} : ∀ {es : List Expr}, es.all plainE = true → (assignEach es env).findIdx? (·.1) = none
  | [], _ => rfl
  | e :: es, h => by
    rw [List.all_cons, Bool.and_eq_true] at h
    rw [asg_plain h.1, List.findIdx?_cons, asg_none h.2]
    rfl

/-! ### what is walked -/
/-- at turn i the iterator hands out the i-th item; behind the last one it stops -/
structure Wk (J : It) (H1 : Hp) (its : List D) : Prop where
  go : ∀ i H d, Pers H1 H → its[i]? = some d → J.go i H ∧ ∀ x H', J.yld i H x H' → Same H H' ∧ Rep H' d x
  stop : ∀ H, Pers H1 H → J.stop its.length H
def iD (T : Tbl) (XR : Hp → Nat → List D → Value → Option Addr → Prop) (W : WX) (k : ItK) (src : List E) : TI := fun σ H R => ∃ F st, SI F σ st H ∧ Post XR W F σ H (evs T src st) fun ds H1 => ∃ its, k.get ds = some its ∧ ∀ J H2, Same H1 H2 → Wk J H2 its → R J H2
theorem rangeD_get : ∀ (n : Nat) (lo : Int) (i : Nat) (d : D), (rangeD lo n)[i]? = some d → i < n ∧ d = .int (lo + i)
  | 0, lo, i, d, h => by simp [rangeD] at h
  | n + 1, lo, 0, d, h => by simp [rangeD] at h; subst h; simp
  | n + 1, lo, i + 1, d, h => by
    simp only [rangeD, List.getElem?_cons_succ] at h
    obtain ⟨h1, h2⟩ := rangeD_get n (lo + 1) i d h
    refine ⟨by omega, ?_⟩
    rw [h2]
    congr 1
    omega
theorem rangeD_len : ∀ (n : Nat) (lo : Int), (rangeD lo n).length = n
  | 0, _ => rfl
  | n + 1, lo => by simp [rangeD, rangeD_len n]
theorem wk_rng {H : Hp} (lo : Int) (n : Nat) : Wk (Itr lo n) H (rangeD lo n) :=
  ⟨fun i H' d _ h => by
    obtain ⟨h1, rfl⟩ := rangeD_get n lo i d h
    refine ⟨h1, fun x H2 ⟨e, ex⟩ => ?_⟩
    subst e ex
    exact ⟨Same.refl _, rfl⟩, fun H' _ => by rw [rangeD_len]; exact Nat.le_refl n⟩
theorem wk_list {K : PySem.W.Frag} {H : Hp} {a : Addr} {o : Obj} {ds : List D} {vs : List V} (h : H a = some (.frz o (.lst vs))) (r : RepL H ds vs) : Wk (Itl K a) H ds := by
  have sq : ∀ {H'}, Pers H H' → SqL K H' a vs := fun p => .inl (.inr ⟨o, p.frz _ _ _ h⟩)
  refine ⟨fun i H' d p e => ?_, fun H' p => ⟨vs, sq p, by rw [r.len]; exact Nat.le_refl _⟩⟩
  obtain ⟨v, q1, q2⟩ := r.get e
  refine ⟨⟨vs, v, sq p, q1⟩, fun x H2 ⟨e2, hx⟩ => ?_⟩
  subst e2
  have := hx vs (sq p)
  rw [q1] at this
  cases this
  exact ⟨Same.refl _, Rep.pers p _ _ q2⟩
theorem wk_tup {K : PySem.W.Frag} {H : Hp} {a : Addr} {ds : List D} {vs : List V} (h : H a = some (.tup vs)) (r : RepL H ds vs) : Wk (Itt K a) H ds := by
  have sq : ∀ {H'}, Pers H H' → SqT K H' a vs := fun p => SqT.of (p.tup _ _ h)
  refine ⟨fun i H' d p e => ?_, fun H' p => ⟨vs, sq p, by rw [r.len]; exact Nat.le_refl _⟩⟩
  obtain ⟨v, q1, q2⟩ := r.get e
  refine ⟨⟨vs, v, sq p, q1⟩, fun x H2 ⟨e2, hx⟩ => ?_⟩
  subst e2
  have := hx vs (sq p)
  rw [q1] at this
  cases this
  exact ⟨Same.refl _, Rep.pers p _ _ q2⟩
theorem wk_str {H : Hp} {x : List Nat} : Wk (Its ⟨x.toArray⟩) H (x.map fun c => .str [c]) := by
  refine ⟨fun i H' d p e => ?_, fun H' p => by show x.toArray.size ≤ _; simp⟩
  rw [List.getElem?_map] at e
  cases q : x[i]? with
  | none => rw [q] at e; cases e
  | some c =>
    rw [q] at e
    cases e
    have hi := (List.getElem?_eq_some_iff.mp q).1
    refine ⟨by show i < x.toArray.size; simpa using hi, fun y H2 ⟨e2, c', ec, ey⟩ => ?_⟩
    subst e2 ey
    have : x.toArray[i]? = some c' := ec
    rw [List.getElem?_toArray, q] at this
    cases this
    exact ⟨Same.refl _, rfl, by rw [sz_big]; show 1 ≤ big; decide⟩
section
variable {X : Cx} {T : Tbl} {XR : Hp → Nat → List D → Value → Option Addr → Prop} {W : WX} {a b c m : E} {ea eb ec e : Expr} {pos : Pos}
theorem piOf {tg e : Expr} {t t' : TI} (h : PI X tg e t) (i : ∀ σ H R, t' σ H R → t σ H R) : PI X tg e t' := ⟨fun pins s σ H R I w => h.run pins s σ H R I (i σ H R w)⟩
theorem evs1 {F : Fx} {σ : L2.St} {H : Hp} {st : Sx} {R : List D → Hp → Prop} (ho : a.isOwn = none) (h : Post XR W F σ H (evs T [a] st) R) : Post XR W F σ H (ev T a st) fun d H' => R [d] H' := by
  rw [evs, ho] at h
  simp only [evs] at h
  exact h.bind fun d s1 H1 _ p I1 q => q H1 (Pers.refl _) I1
theorem it_seq {tg : Expr} (ho : a.isOwn = none) (ha : PE X ea (den T XR W a)) : PI X tg ea (iD T XR W .seq [a]) := by
  refine ⟨fun pins s σ H R I0 ⟨F, st, I, h⟩ => ?_⟩
  have h1 := evs1 ho h
  refine thn (ha.run pins s σ H (fun x H1 => ∃ d its, Rep H1 d x ∧ ItK.seq.get [d] = some its ∧ ∀ J H2, Same H1 H2 → Wk J H2 its → R J H2) I0 ⟨F, st, I, h1.mono fun d s1 H1 _ p I1 ⟨its, q1, q2⟩ v rv => ⟨d, its, rv, q1, q2⟩⟩) fun v s1 ⟨x, H1, I1, r1, d, its, rd, e, k⟩ => ?_
  cases d <;> simp only [ItK.get] at e <;> try (cases e; done)
  · cases e
    simp only [Rep] at rd
    obtain ⟨b, vs, rfl, g1, g2⟩ := rd
    cases r1
    obtain ⟨us, rv, p, hz⟩ := I1.tuple (SqT.of g1)
    refine wpAny_pyIter_tuple (show s1.heap.IsTuple b us.toArray from p) ?_
    refine ⟨s1.heap.objs.size, [s1.heap.objs.size], _, _, H1, rfl, I1.kept (t' := s1.toks) fun b o e => Heap.get?_push_of_some _ e, turn_tuple b _, ⟨_, Heap.get?_push_size _ rfl, rfl, rfl⟩, fun b' hb => ?_, k _ H1 (Same.refl _) (wk_tup g1 g2)⟩
    obtain rfl : b' = s1.heap.objs.size := by simpa using hb
    exact I1.fpOk (Nat.le_refl _) (I1.hok.fresh (Nat.le_refl _))
  · cases e
    simp only [Rep] at rd
    obtain ⟨b, o, vs, rfl, g1, g2⟩ := rd
    cases r1
    obtain ⟨us, rv, p, hz⟩ := I1.list (X := X) (show SqL X.K H1 b vs from .inl (.inr ⟨o, g1⟩))
    refine wpAny_pyIter_list p.isList ?_
    refine ⟨s1.heap.objs.size, [s1.heap.objs.size], _, _, H1, rfl, I1.kept (t' := s1.toks) fun b o e => Heap.get?_push_of_some _ e, turn_list b _, ⟨_, Heap.get?_push_size _ rfl, rfl, rfl⟩, fun b' hb => ?_, k _ H1 (Same.refl _) (wk_list g1 g2)⟩
    obtain rfl : b' = s1.heap.objs.size := by simpa using hb
    exact I1.fpOk (Nat.le_refl _) (I1.hok.fresh (Nat.le_refl _))
theorem it_str {tg : Expr} (ho : a.isOwn = none) (ha : PE X ea (den T XR W a)) : PI X tg ea (iD T XR W .str [a]) := by
  refine piOf (pi_str ha) fun σ H R ⟨F, st, I, h⟩ => ?_
  refine ⟨F, st, I, (evs1 ho h).mono fun d s1 H1 _ p I1 ⟨its, q1, q2⟩ v rv => ?_⟩
  cases d <;> simp only [ItK.get] at q1 <;> try (cases q1; done)
  cases q1
  obtain ⟨rfl, hz⟩ := rv
  exact ⟨_, rfl, q2 _ _ (Same.refl _) wk_str⟩
theorem it_rng1 {tg : Expr} {pp : Pos} (hg : Gl X "range") (hm : X.mg "range" = none) (hp : plainE ea = true) (ho : a.isOwn = none) (ha : PE X ea (den T XR W a)) : PI X tg (.Call (.Name "range" pp) [ea] [] pos) (iD T XR W .rng [a]) := by
  refine piOf (pi_range1 hg hm (pa_cons ha pa_nil (star_cons hp _ _)) (by rw [star_cons hp]; rfl)) fun σ H R ⟨F, st, I, h⟩ => ?_
  refine ⟨F, st, I, (evs1 ho h).mono fun d s1 H1 _ p I1 ⟨its, q1, q2⟩ v rv => ?_⟩
  cases d <;> simp only [ItK.get] at q1 <;> try (cases q1; done)
  rename_i j _ _
  split at q1
  · rename_i hj
    cases q1
    cases rv
    exact ⟨j, rfl, hj.1, hj.2, q2 _ _ (Same.refl _) (wk_rng 0 j.toNat)⟩
  · cases q1
theorem it_rng2 {tg : Expr} {pp : Pos} (hg : Gl X "range") (hm : X.mg "range" = none) (hp : plainE ea = true) (hp2 : plainE eb = true) (ho : a.isOwn = none) (ho2 : b.isOwn = none) (ha : PE X ea (den T XR W a)) (hb : PE X eb (den T XR W b)) :
    PI X tg (.Call (.Name "range" pp) [ea, eb] [] pos) (iD T XR W .rng [a, b]) := by
  have e1 : tE T XR W a = den T XR W a := by unfold tE; rw [ho]
  have e2 : tE T XR W b = den T XR W b := by unfold tE; rw [ho2]
  refine piOf (pi_range2 hg hm (All2.cons (e1 ▸ ha) hp (All2.cons (e2 ▸ hb) hp2 All2.nil)).pa (by rw [star_cons hp, star_cons hp2]; rfl) (by rw [star_cons hp2]; rfl)) fun σ H R ⟨F, st, I, h⟩ => ?_
  refine args [a, b] st H _ I (h.mono fun ds s1 H1 _ p I1 ⟨its, q1, q2⟩ vs rv => ?_)
  have rp := rv.rep (by simp [ho, ho2])
  cases ds with
  | nil => simp only [ItK.get] at q1; cases q1
  | cons d1 ds =>
    cases ds with
    | nil => simp only [RepL] at rp; obtain ⟨_, _, rfl, _, rfl⟩ := rp; obtain ⟨_, _, _, _, e, _, _, _, _, _, _, e', _⟩ := rv; cases e; cases e'
    | cons d2 ds =>
      cases ds with
      | cons d3 ds => cases d1 <;> cases d2 <;> simp only [ItK.get] at q1 <;> cases q1
      | nil =>
        cases d1 <;> cases d2 <;> simp only [ItK.get] at q1 <;> try (cases q1; done)
        rename_i j k _ _
        split at q1
        · rename_i hj
          cases q1
          simp only [RepL, Rep] at rp
          obtain ⟨_, _, rfl, rfl, _, _, rfl, rfl, rfl⟩ := rp
          exact ⟨j, k, rfl, hj, q2 _ _ (Same.refl _) (wk_rng j (k - j).toNat)⟩
        · cases q1
end
end Rf

set_option Elab.async false
set_option linter.all false
set_option maxRecDepth 100000
set_option maxHeartbeats 4000000
namespace Rf
open PySem PySem.Spec PyProof.Rows L2

theorem wipe_get {σ : L2.St} : ∀ {vs : List Nat} {j : Nat}, j ∉ vs → (wipe σ vs)[j]? = σ[j]?
  | [], j, _ => rfl
  | v :: vs, j, h => by
    simp only [List.mem_cons, not_or] at h
    show ((wipe σ vs).set v none)[j]? = _
    rw [List.getElem?_set_ne (Ne.symm h.1)]
    exact wipe_get h.2
theorem wipe_wipe {σ : L2.St} {vs : List Nat} : wipe (wipe σ vs) vs = wipe σ vs := by
  have at_in : ∀ {us : List Nat} {τ : L2.St} {j : Nat}, j ∈ us → j < τ.length → (wipe τ us)[j]? = some none := by
    intro us
    induction us with
    | nil => intro τ j h; simp at h
    | cons u us ih =>
      intro τ j h hl
      show ((wipe τ us).set u none)[j]? = _
      by_cases e : u = j
      · subst e
        exact List.getElem?_set_self (by rw [wipe_length]; exact hl)
      · rw [List.getElem?_set_ne e]
        rcases List.mem_cons.mp h with h | h
        · exact absurd h.symm e
        · exact ih h hl
  refine List.ext_getElem? fun j => ?_
  by_cases hj : j ∈ vs
  · by_cases hl : j < σ.length
    · rw [at_in hj (by rw [wipe_length]; exact hl), at_in hj hl]
    · rw [List.getElem?_eq_none (by rw [wipe_length, wipe_length]; omega), List.getElem?_eq_none (by rw [wipe_length]; omega)]
  · rw [wipe_get hj]
theorem wipeR_get {r : List Slot} : ∀ {vs : List Nat} {j : Nat} {x : Slot}, (wipeR r vs)[j]? = some x → (j ∉ vs ∧ r[j]? = some x) ∨ (j ∈ vs ∧ x = .none)
  | [], j, x, h => .inl ⟨by simp, h⟩
  | v :: vs, j, x, h => by
    have h : ((wipeR r vs).set v .none)[j]? = some x := h
    by_cases e : v = j
    · subst e
      by_cases hv : v < (wipeR r vs).length
      · rw [List.getElem?_set_self hv] at h
        cases h
        exact .inr ⟨by simp, rfl⟩
      · rw [List.getElem?_eq_none (by simpa using hv)] at h
        cases h
    · rw [List.getElem?_set_ne e] at h
      rcases wipeR_get h with ⟨h1, h2⟩ | ⟨h1, h2⟩
      · exact .inl ⟨by simp only [List.mem_cons, not_or]; exact ⟨fun z => e z.symm, h1⟩, h2⟩
      · exact .inr ⟨List.mem_cons_of_mem _ h1, h2⟩
theorem SI.wiped {F : Fx} {σ : L2.St} {st : Sx} {H : Hp} (I : SI F σ st H) (vs : List Nat) : SI F (wipe σ vs) ⟨wipeR st.r vs, st.g⟩ H := by
  have ow : ∀ {j : Nat} {z : List D} {a : Addr}, (wipeR st.r vs)[j]? = some (.own z) → (wipe σ vs)[j]? = some (some (.ref a)) → st.r[j]? = some (.own z) ∧ σ[j]? = some (some (.ref a)) := by
    intro j z a h1 h2
    rcases wipeR_get h1 with ⟨n, h⟩ | ⟨_, h⟩
    · rw [wipe_get n] at h2
      exact ⟨h, h2⟩
    · cases h
  refine ⟨fun j x h => ?_, fun j k x y a h1 h2 h3 h4 => ?_, fun j x a h1 h2 => ?_, I.keep, I.glen, I.glob, I.gone, I.hid, I.hfr⟩
  · rcases wipeR_get h with ⟨n, h⟩ | ⟨hm, rfl⟩
    · obtain ⟨y, h1, h2⟩ := I.slot j x h
      exact ⟨y, by rw [wipe_get n]; exact h1, h2⟩
    · have : j < (wipeR st.r vs).length := (List.getElem?_eq_some_iff.mp h).1
      have wl : ∀ us : List Nat, (wipeR st.r us).length = st.r.length := by
        intro us
        induction us with
        | nil => rfl
        | cons u us ih => show ((wipeR st.r us).set u .none).length = _; rw [List.length_set, ih]
      rw [wl] at this
      obtain ⟨y, h1, _⟩ := I.slot j _ (List.getElem?_eq_getElem this)
      have hj : j < (wipe σ vs).length := by rw [wipe_length]; exact (List.getElem?_eq_some_iff.mp h1).1
      exact ⟨_, List.getElem?_eq_getElem hj, trivial⟩
  · obtain ⟨a1, b1⟩ := ow h1 h3
    obtain ⟨a2, b2⟩ := ow h2 h4
    exact I.one j k x y a a1 a2 b1 b2
  · obtain ⟨a1, b1⟩ := ow h1 h2
    exact I.fresh j x a a1 b1
/-- a new list is being filled, out of sight of the evaluation within -/
theorem SI.hide {F : Fx} {σ : L2.St} {st : Sx} {H : Hp} {p : Addr} {vs : List V} {ds : List D} (I : SI F σ st H) (hp : H p = none) (r : RepL H ds vs) : SI { F with hid := (p, ds) :: F.hid } σ st (upd H p (.lst vs)) := by
  have sm : Same H (upd H p (.lst vs)) := same_upd hp
  have J := I.same sm
  have f0 : F.H0 p = none := by
    by_cases hm : p ∈ F.l
    · obtain ⟨k, hk, e⟩ := List.getElem_of_mem hm
      have hk' : k < st.g.length := by rw [I.glen]; exact hk
      obtain ⟨kvs, q, _⟩ := I.glob k _ p (List.getElem?_eq_getElem hk') (by rw [List.getElem?_eq_getElem hk, e])
      rw [hp] at q; cases q
    · cases q : F.H0 p with
      | none => rfl
      | some o => have := I.keep p o q hm; rw [hp] at this; cases this
  have nl : p ∉ F.l := fun hm => by
    obtain ⟨k, hk, e⟩ := List.getElem_of_mem hm
    have hk' : k < st.g.length := by rw [I.glen]; exact hk
    obtain ⟨kvs, q, _⟩ := I.glob k _ p (List.getElem?_eq_getElem hk') (by rw [List.getElem?_eq_getElem hk, e])
    rw [hp] at q; cases q
  refine ⟨J.slot, J.one, fun i x a h1 h2 => ?_, J.keep, J.glen, J.glob, J.gone, fun q hq => ?_, fun q hq => ?_⟩
  · obtain ⟨g1, g2, g3⟩ := I.fresh i x a h1 h2
    refine ⟨g1, g2, fun q hq => ?_⟩
    rcases List.mem_cons.mp hq with rfl | hq
    · obtain ⟨b, ws, e1, e2, _⟩ := I.own h1
      rw [h2] at e1
      cases e1
      intro z
      have z : p = a := z
      rw [z, e2] at hp; cases hp
    · exact g3 q hq
  · rcases List.mem_cons.mp hq with rfl | hq
    · exact ⟨vs, upd_same, RepL.pers (Pers.of_same sm) _ _ r⟩
    · exact J.hid q hq
  · rcases List.mem_cons.mp hq with rfl | hq
    · exact ⟨f0, nl⟩
    · exact I.hfr q hq
/-- the list grows by one -/
theorem SI.grow {F : Fx} {σ : L2.St} {st : Sx} {H : Hp} {p : Addr} {vs : List V} {ds : List D} {d : D} {v : V} (I : SI { F with hid := (p, ds) :: F.hid } σ st H) (h : H p = some (.lst vs)) (nd : ∀ q ∈ F.hid, q.1 ≠ p) (rd : Rep H d v) :
    SI { F with hid := (p, ds ++ [d]) :: F.hid } σ st (upd H p (.lst (vs ++ [v]))) := by
  have p1 : Pers H (upd H p (.lst (vs ++ [v]))) := pers_upd h trivial
  obtain ⟨f1, f2⟩ := I.hfr (p, ds) (by simp)
  obtain ⟨ws, w1, w2⟩ := I.hid (p, ds) (by simp)
  rw [h] at w1
  cases w1
  refine ⟨fun i x hx => ?_, I.one, fun i x a h1 h2 => ?_, fun b o h1 h2 => ?_, I.glen, fun k kd b h1 h2 => ?_, I.gone, fun q hq => ?_, fun q hq => ?_⟩
  · obtain ⟨y, h1, h2⟩ := I.slot i x hx
    refine ⟨y, h1, ?_⟩
    cases x with
    | none => trivial
    | val d => obtain ⟨v, e1, e2⟩ := h2; exact ⟨v, e1, Rep.pers p1 _ _ e2⟩
    | own xs =>
      obtain ⟨b, ws, e1, e2, e3⟩ := h2
      have := (I.fresh i xs b hx (by rw [h1, e1])).2.2 (p, ds) (by simp)
      exact ⟨b, ws, e1, by rw [upd_ne (fun z => this z.symm)]; exact e2, RepL.pers p1 _ _ e3⟩
    | glb k => exact h2
  · obtain ⟨g1, g2, g3⟩ := I.fresh i x a h1 h2
    refine ⟨g1, g2, fun q hq => ?_⟩
    rcases List.mem_cons.mp hq with rfl | hq
    · exact g3 (p, ds) (by simp)
    · exact g3 q (List.mem_cons_of_mem _ hq)
  · rw [upd_ne (fun z => by rw [z, f1] at h1; cases h1)]
    exact I.keep b o h1 h2
  · obtain ⟨kvs, q1, q2, q3⟩ := I.glob k kd b h1 h2
    refine ⟨kvs, ?_, q2, RepL.pers p1 _ _ q3⟩
    rw [upd_ne (fun z => f2 (by rw [← z]; exact List.mem_of_getElem? h2))]
    exact q1
  · rcases List.mem_cons.mp hq with rfl | hq
    · exact ⟨_, upd_same, (RepL.pers p1 _ _ w2).append (by simp only [RepL]; exact ⟨v, [], rfl, Rep.pers p1 _ _ rd, rfl⟩)⟩
    · obtain ⟨us, q1, q2⟩ := I.hid q (List.mem_cons_of_mem _ hq)
      exact ⟨us, by rw [upd_ne (nd q hq)]; exact q1, RepL.pers p1 _ _ q2⟩
  · rcases List.mem_cons.mp hq with rfl | hq
    · exact ⟨f1, f2⟩
    · exact I.hfr q (List.mem_cons_of_mem _ hq)
/-- the list is out: the heap without it -/
def off (H : Hp) (p : Addr) : Hp := fun b => if b = p then none else H b
theorem off_ne {H : Hp} {p b : Addr} (h : b ≠ p) : off H p b = H b := by unfold off; rw [if_neg h]
theorem off_same {H : Hp} {p : Addr} : off H p p = none := by unfold off; rw [if_pos rfl]
theorem SI.bare {F : Fx} {σ : L2.St} {st : Sx} {H : Hp} {p : Addr} {ds : List D} (I : SI { F with hid := (p, ds) :: F.hid } σ st H) (nd : ∀ q ∈ F.hid, q.1 ≠ p) : SI F σ st (off H p) := by
  obtain ⟨f1, f2⟩ := I.hfr (p, ds) (by simp)
  obtain ⟨ws, w1, w2⟩ := I.hid (p, ds) (by simp)
  have p1 : Pers H (off H p) := by
    refine ⟨fun b xs q => ?_, fun b o u q => ?_⟩
    · rw [off_ne (fun z => by rw [z, w1] at q; cases q)]; exact q
    · rw [off_ne (fun z => by rw [z, w1] at q; cases q)]; exact q
  refine ⟨fun i x hx => ?_, I.one, fun i x a h1 h2 => ?_, fun b o h1 h2 => ?_, I.glen, fun k kd b h1 h2 => ?_, I.gone, fun q hq => ?_, fun q hq => I.hfr q (List.mem_cons_of_mem _ hq)⟩
  · obtain ⟨y, h1, h2⟩ := I.slot i x hx
    refine ⟨y, h1, ?_⟩
    cases x with
    | none => trivial
    | val d => obtain ⟨v, e1, e2⟩ := h2; exact ⟨v, e1, Rep.pers p1 _ _ e2⟩
    | own xs =>
      obtain ⟨b, ws, e1, e2, e3⟩ := h2
      have := (I.fresh i xs b hx (by rw [h1, e1])).2.2 (p, ds) (by simp)
      exact ⟨b, ws, e1, by rw [off_ne (fun z => this z.symm)]; exact e2, RepL.pers p1 _ _ e3⟩
    | glb k => exact h2
  · obtain ⟨g1, g2, g3⟩ := I.fresh i x a h1 h2
    exact ⟨g1, g2, fun q hq => g3 q (List.mem_cons_of_mem _ hq)⟩
  · rw [off_ne (fun z => by rw [z, f1] at h1; cases h1)]
    exact I.keep b o h1 h2
  · obtain ⟨kvs, q1, q2, q3⟩ := I.glob k kd b h1 h2
    exact ⟨kvs, by rw [off_ne (fun z => f2 (by rw [← z]; exact List.mem_of_getElem? h2))]; exact q1, q2, RepL.pers p1 _ _ q3⟩
  · obtain ⟨us, q1, q2⟩ := I.hid q (List.mem_cons_of_mem _ hq)
    exact ⟨us, by rw [off_ne (nd q hq)]; exact q1, RepL.pers p1 _ _ q2⟩
/-- the names of a comprehension stand again -/
theorem backR_get {r0 r : List Slot} : ∀ {vs : List Nat} {j : Nat} {x : Slot}, (backR r0 vs r)[j]? = some x → (j ∉ vs ∧ r[j]? = some x) ∨ (j ∈ vs ∧ j < r.length ∧ (x = .none ∨ (r0[j]? = some x ∧ ((∃ d, x = .val d) ∨ ∃ k, x = .glb k))))
  | [], j, x, h => .inl ⟨by simp, h⟩
  | v :: vs, j, x, h => by
    have h : ((backR r0 vs r).set v _)[j]? = some x := h
    have bl : ∀ us : List Nat, (backR r0 us r).length = r.length := by
      intro us
      induction us with
      | nil => rfl
      | cons u us ih => show ((backR r0 us r).set u _).length = _; rw [List.length_set, ih]
    by_cases e : v = j
    · subst e
      by_cases hv : v < (backR r0 vs r).length
      · rw [List.getElem?_set_self hv] at h
        refine .inr ⟨by simp, by rw [← bl vs]; exact hv, ?_⟩
        split at h
        · cases h; rename_i d ed; exact .inr ⟨ed, .inl ⟨d, rfl⟩⟩
        · cases h; rename_i d ed; exact .inr ⟨ed, .inr ⟨d, rfl⟩⟩
        · cases h; exact .inl rfl
      · rw [List.getElem?_eq_none (by simpa using hv)] at h
        cases h
    · rw [List.getElem?_set_ne e] at h
      rcases backR_get h with ⟨h1, h2⟩ | ⟨h1, h2⟩
      · exact .inl ⟨by simp only [List.mem_cons, not_or]; exact ⟨fun z => e z.symm, h1⟩, h2⟩
      · exact .inr ⟨List.mem_cons_of_mem _ h1, h2⟩
theorem SI.back {F : Fx} {σ : L2.St} {s0 st : Sx} {H0 H : Hp} {vs : List Nat} (I0 : SI F σ s0 H0) (p : Pers H0 H) (I : SI F (wipe σ vs) ⟨wipeR st.r vs, st.g⟩ H) : SI F σ ⟨backR s0.r vs st.r, st.g⟩ H := by
  have ow : ∀ {j : Nat} {z : List D}, (backR s0.r vs st.r)[j]? = some (.own z) → (wipeR st.r vs)[j]? = some (.own z) ∧ (wipe σ vs)[j]? = σ[j]? := by
    intro j z h1
    rcases backR_get h1 with ⟨n, h⟩ | ⟨_, _, h | ⟨_, ⟨d, h⟩ | ⟨d, h⟩⟩⟩
    · refine ⟨?_, wipe_get n⟩
      have : ∀ us : List Nat, j ∉ us → (wipeR st.r us)[j]? = st.r[j]? := by
        intro us
        induction us with
        | nil => intro _; rfl
        | cons u us ih =>
          intro hu
          simp only [List.mem_cons, not_or] at hu
          show ((wipeR st.r us).set u .none)[j]? = _
          rw [List.getElem?_set_ne (Ne.symm hu.1), ih hu.2]
      rw [this vs n]; exact h
    · cases h
    · cases h
    · cases h
  refine ⟨fun j x h => ?_, fun j k x y a h1 h2 h3 h4 => ?_, fun j x a h1 h2 => ?_, I.keep, I.glen, I.glob, I.gone, I.hid, I.hfr⟩
  · rcases backR_get h with ⟨n, h⟩ | ⟨_, hl, h | ⟨h, hx⟩⟩
    · have : ∀ us : List Nat, j ∉ us → (wipeR st.r us)[j]? = st.r[j]? := by
        intro us
        induction us with
        | nil => intro _; rfl
        | cons u us ih =>
          intro hu
          simp only [List.mem_cons, not_or] at hu
          show ((wipeR st.r us).set u .none)[j]? = _
          rw [List.getElem?_set_ne (Ne.symm hu.1), ih hu.2]
      obtain ⟨y, h1, h2⟩ := I.slot j x (by rw [this vs n]; exact h)
      exact ⟨y, by rw [← wipe_get n]; exact h1, h2⟩
    · subst h
      have wl : ∀ us : List Nat, (wipeR st.r us).length = st.r.length := by
        intro us
        induction us with
        | nil => rfl
        | cons u us ih => show ((wipeR st.r us).set u .none).length = _; rw [List.length_set, ih]
      obtain ⟨y, h1, _⟩ := I.slot j _ (List.getElem?_eq_getElem (by rw [wl]; exact hl))
      have hj : j < σ.length := by rw [← wipe_length σ vs]; exact (List.getElem?_eq_some_iff.mp h1).1
      exact ⟨_, List.getElem?_eq_getElem hj, trivial⟩
    · obtain ⟨y, h1, h2⟩ := I0.slot j x h
      refine ⟨y, h1, ?_⟩
      rcases hx with ⟨d, rfl⟩ | ⟨k, rfl⟩
      · obtain ⟨v, e1, e2⟩ := h2; exact ⟨v, e1, Rep.pers p _ _ e2⟩
      · exact h2
  · obtain ⟨a1, b1⟩ := ow h1
    obtain ⟨a2, b2⟩ := ow h2
    exact I.one j k x y a a1 a2 (by rw [b1]; exact h3) (by rw [b2]; exact h4)
  · obtain ⟨a1, b1⟩ := ow h1
    exact I.fresh j x a a1 (by rw [b1]; exact h2)
end Rf

set_option Elab.async false
set_option linter.all false
set_option maxRecDepth 100000
set_option maxHeartbeats 4000000
namespace Rf
open PySem PySem.Spec PyProof.Rows L2

/-- nothing may be raised -/
abbrev W0 : WX := fun _ _ _ _ => False
def tCs (T : Tbl) (XR : Hp → Nat → List D → Value → Option Addr → Prop) (W : WX) : List E → TT
  | [] => tYes
  | c :: _ => denT T XR W c
section
variable {X : Cx} {T : Tbl} {XR : Hp → Nat → List D → Value → Option Addr → Prop} {W : WX} {a b c m : E} {ea eb ec e : Expr} {pos : Pos}
theorem tCs_go {F : Fx} {σ : L2.St} {H : Hp} {st s2 : Sx} {cs : List E} {t : Bool} {Q : Bool → Hp → Prop} (hc : cs.length ≤ 1) (I : SI F σ st H) (e : evt T cs st = .ok t s2) (k : ∀ H', Pers H H' → SI F σ s2 H' → Q t H') : tCs T XR W0 cs σ H Q := by
  cases cs with
  | nil =>
    simp only [evt] at e
    cases e
    exact k H (Pers.refl H) I
  | cons c cs =>
    cases cs with
    | cons d ds => simp at hc
    | nil =>
      refine ⟨F, st, I, ?_⟩
      simp only [evt] at e
      cases q : ev T c st with
      | bad => rw [q] at e; cases e
      | exc => rw [q] at e; cases e
      | ok d s1 =>
        rw [q] at e
        simp only [Res.bind] at e
        intro H1 p I1
        split at e
        · rename_i z; cases e; exact ⟨true, z, k H1 p I1⟩
        · rename_i z; cases e; exact ⟨false, z, k H1 p I1⟩
        · cases e
theorem n_comp {F : Fx} {elt : E} {pt : Pat} {it : ItK} {src cs : List E} {ws : List Nat} {K : PySem.W.Frag} {σ : L2.St} {H : Hp} {Q : VK} (hc : cs.length ≤ 1) (hv : ∀ i ∈ pt.vars, i ∈ ws) (h : denN T XR W (.comp elt pt it src cs ws) σ H Q) :
    tLc (iD T XR W it src) (patG K pt) (tCs T XR W0 cs) (den T XR W0 elt) ws σ H Q := by
  obtain ⟨F, st, I, h⟩ := h
  simp only [ev] at h
  refine ⟨F, st, I, h.bind fun ds s1 H1 _ p1 I1 q => ?_⟩
  cases ei : it.get ds with
  | none => rw [ei] at q; exact q.elim
  | some its =>
    rw [ei] at q
    simp only at q
    refine ⟨its, rfl, fun J H2 sm wk => ?_⟩
    have I2 := I1.same sm
    cases ec : compL (bindP pt) (evt T cs) (ev T elt) ws its s1 with
    | bad => rw [ec] at q; exact q.elim
    | exc => rw [ec] at q; exact q.elim
    | ok RS S2 =>
      rw [ec] at q
      simp only at q
      split at q
      rotate_left
      · exact q.elim
      rename_i hbig
      intro Dp hD
      have nd : ∀ z ∈ F.hid, z.1 ≠ Dp := fun z hz e => by
        obtain ⟨vs, g, _⟩ := I2.hid z hz
        rw [e, hD] at g; cases g
      let Wv : Nat → Nat → Hp → Prop := fun i mm Hc => mm = its.length - i ∧ i ≤ its.length ∧ Pers H2 Hc ∧ ∃ (sti : Sx) (acc : List D) (rs : List D),
        SI { F with hid := (Dp, acc) :: F.hid } (wipe σ ws) ⟨wipeR sti.r ws, sti.g⟩ Hc ∧ compL (bindP pt) (evt T cs) (ev T elt) ws (its.drop i) sti = .ok rs S2 ∧ RS = acc ++ rs
      refine ⟨Wv, ⟨its.length, by simp, Nat.zero_le _, Pers.of_same (same_upd hD), s1, [], RS, (I2.wiped ws).hide hD (by simp [RepL]), by rw [List.drop_zero]; exact ec, rfl⟩, ?_⟩
      rintro i mm Hc ⟨rfl, hi, pc, sti, acc, rs, Ic, eq, hrs⟩
      by_cases hlt : i < its.length
      · have hx : its[i]? = some its[i] := List.getElem?_eq_getElem hlt
        obtain ⟨go, yld⟩ := wk.go i Hc _ pc hx
        refine .inr ⟨go, fun H' => ∃ m', m' < its.length - i ∧ Wv (i + 1) m' H', fun H' z => z, fun x H' hy => ?_⟩
        obtain ⟨sm2, rx⟩ := yld x H' hy
        have Id := Ic.same sm2
        rw [List.drop_eq_getElem_cons hlt] at eq
        simp only [compL] at eq
        cases eb : bindP pt its[i] (wipeR sti.r ws) with
        | none => rw [eb] at eq; cases eq
        | some r1 =>
          rw [eb] at eq
          simp only at eq
          refine bindP_run pt _ _ r1 x _ _ eb Id rx fun σ2 J2 hw => ⟨by rw [hw ws hv]; exact wipe_wipe, ?_⟩
          cases et : evt T cs ⟨r1, sti.g⟩ with
          | bad => rw [et] at eq; cases eq
          | exc => rw [et] at eq; cases eq
          | ok t s2 =>
            rw [et] at eq
            simp only [Res.bind] at eq
            refine tCs_go hc J2 et fun H3 p3 J3 => ?_
            have hw2 : wipe σ2 ws = wipe σ ws := by rw [hw ws hv]; exact wipe_wipe
            cases t with
            | false =>
              rw [if_neg (by decide)] at eq
              rw [if_neg (by decide)]
              refine ⟨its.length - (i + 1), by omega, rfl, hlt, pc.trans ((Pers.of_same sm2).trans p3), s2, acc, rs, ?_, eq, hrs⟩
              have := J3.wiped ws
              rw [hw2] at this
              exact this
            | true =>
              rw [if_pos rfl] at eq
              rw [if_pos rfl]
              cases ee : ev T elt s2 with
              | bad => rw [ee] at eq; cases eq
              | exc => rw [ee] at eq; cases eq
              | ok d s3 =>
                rw [ee] at eq
                simp only at eq
                cases er : compL (bindP pt) (evt T cs) (ev T elt) ws (its.drop (i + 1)) s3 with
                | bad => rw [er] at eq; cases eq
                | exc => rw [er] at eq; cases eq
                | ok r4 s4 =>
                  rw [er] at eq
                  cases eq
                  refine ⟨_, s2, J3, ?_⟩
                  rw [ee]
                  intro H4 p4 J4 v rv
                  obtain ⟨vs, g1, g2⟩ := J4.hid (Dp, acc) (by simp)
                  refine ⟨vs, g1, ?_, its.length - (i + 1), by omega, rfl, hlt, pc.trans ((Pers.of_same sm2).trans (p3.trans (p4.trans (pers_upd g1 trivial)))), s3, acc ++ [d], r4, ?_, er, by rw [hrs]; simp⟩
                  · rw [sz_big, ← (show acc.length = vs.length from g2.len)]
                    rw [hrs] at hbig
                    simp at hbig
                    omega
                  · have := (J4.wiped ws).grow g1 nd rv
                    rw [hw2] at this
                    exact this
      · have e : i = its.length := by omega
        subst e
        rw [List.drop_length] at eq
        simp only [compL] at eq
        cases eq
        refine .inl ⟨wk.stop Hc pc, ?_⟩
        rw [List.append_nil] at hrs
        subst hrs
        obtain ⟨vs, g1, g2⟩ := Ic.hid (Dp, RS) (by simp)
        have Jb := Ic.bare nd
        have pb : Pers H2 (off Hc Dp) := by
          refine ⟨fun b xs z => ?_, fun b o u z => ?_⟩
          · rw [off_ne (fun y => by rw [y, hD] at z; cases z)]; exact pc.tup _ _ z
          · rw [off_ne (fun y => by rw [y, hD] at z; cases z)]; exact pc.frz _ _ _ z
        have Je := SI.back I2 pb Jb
        refine q (off Hc Dp) ((Pers.of_same sm).trans pb) Je (.ref Dp) Hc (fun b o z => ?_) ⟨Dp, vs, rfl, off_same, g1, g2⟩
        by_cases hb : b = Dp
        · rw [hb, off_same] at z; cases z
        · rw [off_ne hb] at z; exact z
end
end Rf

set_option Elab.async false
set_option linter.all false
set_option maxRecDepth 100000
set_option maxHeartbeats 4000000
namespace Rf
open PySem PySem.Spec PyProof.Rows L2

/-! ### the small text against the Python text -/
structure Cfg where
  fns : List (Str × List Str)
  cs : List (Str × D)
def nameOk (x : Str) : Bool := !(x == ("__debug__" : Str)) && !(x == ("__classdict__" : Str)) && !(x == ("__name__" : Str))
def visB (sc : Scope) (x : Str) : Bool := match sc.names.lookup x with
  | some .local => true
  | some .cell => true
  | some .free => true
  | _ => false
def glB (sc : Scope) (x : Str) : Bool := match sc.names.lookup x with
  | some .globalImplicit => true
  | _ => false
def scalEq : D → D → Bool
  | .non, .non => true
  | .bl a, .bl b => a == b
  | .int a, .int b => a == b
  | .str a, .str b => a == b
  | _, _ => false
theorem scalEq_eq {a b : D} (h : scalEq a b = true) : a = b := by
  cases a <;> cases b <;> simp_all [scalEq]
def chkName (N : List Str) (sc : Scope) (i : Nat) : Expr → Bool
  | .Name x _ => decide (N[i]? = some x) && visB sc x && nameOk x
  | _ => false
def binP : P → Option Operator
  | .add => some .Add
  | .sub => some .Sub
  | .mul => some .Mult
  | .fdiv => some .FloorDiv
  | .mod => some .Mod
  | .pow => some .Pow
  | _ => none
def cmpP : P → Option CmpOp
  | .eq => some .Eq
  | .ne => some .NotEq
  | .lt => some .Lt
  | .le => some .LtE
  | .gt => some .Gt
  | .ge => some .GtE
  | .isin => some .In
  | .notin => some .NotIn
  | _ => none
def biP : P → Option String
  | .len => some "len"
  | .all => some "all"
  | .any => some "any"
  | .ord => some "ord"
  | .repr => some "repr"
  | .sorted => some "sorted"
  | .min => some "min"
  | .max => some "max"
  | .abs => some "abs"
  | _ => none
def tyP : P → Option String
  | .int => some "int"
  | .tuple => some "tuple"
  | .list => some "list"
  | .str => some "str"
  | .dict => some "dict"
  | _ => none
def mthP : P → Option (String × String)
  | .get => some ("get", "dict.get")
  | .index => some ("index", "list.index")
  | .upper => some ("upper", "str.upper")
  | _ => none
def isNone : Expr → Bool
  | .Constant .none _ _ => true
  | _ => false
mutual
def chkPat (N : List Str) (ok : Str → Bool) : Pat → Expr → Bool
  | .nm i, e => match e with
    | .Name x _ => decide (N[i]? = some x) && ok x
    | _ => false
  | .tp ps, e => match e with
    | .Tuple es _ _ => chkPats N ok ps es
    | _ => false
def chkPats (N : List Str) (ok : Str → Bool) : List Pat → List Expr → Bool
  | [], [] => true
  | p :: ps, e :: es => plainE e && chkPat N ok p e && chkPats N ok ps es
  | _, _ => false
end
def okDef (sc : Scope) (x : Str) : Bool := match sc.names.lookup x with
  | some .local => true
  | some .cell => true
  | _ => false
def ownOf (N : List Str) (ws : List Nat) : List (Str × Nat) := ws.map fun i => (N.getD i default, i)
def mutP : MutK → Str × String
  | .append => ("append", "list.append")
  | .extend => ("extend", "list.extend")
  | .pop => ("pop", "list.pop")
  | .popLast => ("pop", "list.pop")
def keyE (k : Key) : Expr → Bool
  | .Constant (.str x) _ _ => decide (k = .inr x)
  | .Constant (.int i) _ _ => decide (k = .inl i)
  | _ => false
/-- a def's name, and how its arguments are given -/
def callB (C : Cfg) (sc : Scope) (k : Nat) (f : Str) (args : List Expr) (kws : List Keyword) : Bool := glB sc f && nameOk f && (match C.fns[k]? with
  | some (g, ps) => g == f && decide (kws.map (·.arg) = ((ps.drop args.length).take kws.length).map some) && (kws.isEmpty || decide (args.length + kws.length = ps.length))
  | none => false)
mutual
def chk (C : Cfg) (N : List Str) : Scope → E → Expr → Bool
  | sc, .var i, e => chkName N sc i e
  | _, .own _, _ => false
  | _, .gv _, _ => false
  | _, .take _, _ => false
  | _, .kint i, e => match e with
    | .Constant (.int j) _ _ => i == j
    | _ => false
  | _, .kstr x, e => match e with
    | .Constant (.str y) _ _ => y.cps.toList == x && decide (x.length ≤ big)
    | _ => false
  | _, .kbl b, e => match e with
    | .Constant (.bool c) _ _ => b == c
    | _ => false
  | _, .knon, e => isNone e
  | sc, .glo x d, e => match e with
    | .Name y _ => y == x && glB sc x && nameOk x && C.cs.any fun p => p.1 == x && scalEq p.2 d
    | _ => false
  | sc, .and a b, e => match e with
    | .BoolOp .And (ea :: rest) pos => chk C N sc a ea && (match rest with
      | [] => false
      | [eb] => chk C N sc b eb
      | _ :: _ :: _ => (match b with | .and _ _ => true | _ => false) && chk C N sc b (.BoolOp .And rest pos))
    | _ => false
  | sc, .or a b, e => match e with
    | .BoolOp .Or (ea :: rest) pos => chk C N sc a ea && (match rest with
      | [] => false
      | [eb] => chk C N sc b eb
      | _ :: _ :: _ => (match b with | .or _ _ => true | _ => false) && chk C N sc b (.BoolOp .Or rest pos))
    | _ => false
  | sc, .not a, e => match e with
    | .UnaryOp .Not ea _ => chk C N sc a ea
    | _ => false
  | sc, .ite c a b, e => match e with
    | .IfExp ec ea eb _ => chk C N sc c ec && chk C N sc a ea && chk C N sc b eb
    | _ => false
  | sc, .prim p es, e => match e with
    | .BinOp l op r _ => decide (binP p = some op) && chks C N sc es [l, r]
    | .UnaryOp .USub x _ => decide (p = .neg) && chks C N sc es [x]
    | .Compare l [op] [r] _ => match p with
      | .isNone => decide (op = .Is) && isNone r && chks C N sc es [l]
      | .notNone => decide (op = .IsNot) && isNone r && chks C N sc es [l]
      | _ => decide (cmpP p = some op) && chks C N sc es [l, r]
    | .Subscript v s _ => decide (p = .ix) && chks C N sc es [v, s]
    | .Call (.Name f _) args [] _ => glB sc f && nameOk f && (match p with
      | .isa t => f == ("isinstance" : Str) && (match args with
        | [ea, .Name ty _] => ty == Str.ofString t.name && glB sc ty && chks C N sc es [ea]
        | _ => false)
      | _ => ((match biP p with | some x => f == Str.ofString x | none => false) || (match tyP p with | some x => f == Str.ofString x | none => false)) && !args.isEmpty && chks C N sc es args)
    | _ => false
  | sc, .chain p q a b c, e => match e with
    | .Compare ea [o1, o2] [eb, ec] _ => decide (cmpP p = some o1) && decide (cmpP q = some o2) && plainE ec && chk C N sc a ea && chk C N sc b eb && chk C N sc c ec
    | _ => false
  | sc, .cut a lo hi, e => match e with
    | .Subscript ea (.Slice elo ehi none _) _ => plainE ea && (match a.isOwn with | some i => chkName N sc i ea | none => chk C N sc a ea) && chko C N sc lo elo && chko C N sc hi ehi
    | _ => false
  | sc, .stp a lo k, e => match e with
    | .Subscript ea (.Slice elo none (some es) _) _ => plainE ea && (match a.isOwn with | some i => chkName N sc i ea | none => chk C N sc a ea) && chko C N sc lo elo && stepE k es
    | _ => false
  | sc, .tup es, e => match e with
    | .Tuple xs _ _ => (es.all fun a => a.isOwn.isNone) && chks C N sc es xs
    | _ => false
  | sc, .lst es, e => match e with
    | .List xs _ => (es.all fun a => a.isOwn.isNone) && chks C N sc es xs
    | _ => false
  | sc, .dic _ _, _ => false
  | sc, .call k es, e => match e with
    | .Call (.Name f _) args kws _ => callB C sc k f args kws && chkc C N sc es (args ++ kws.map (·.value))
    | _ => false
  | sc, .mth p a es, e => match e with
    | .Call (.Attribute o name apos) args [] cpos => a.isOwn.isNone && recvE o && chk C N sc a o && (match mthP p with | some x => name == Str.ofString x.1 | none => false) && (apos.endLine == cpos.line) && (es.all fun a => a.isOwn.isNone) && decide (args.length < 30) && chks C N sc es args
    | _ => false
  | sc, .gget i k, e => match e with
    | .Subscript v s _ => chkName N sc i v && keyE k s
    | _ => false
  | sc, .comp elt pt it src cs ws, e => match e with
    | .ListComp ee [⟨tg, iter, ifs, 0⟩] scope _ => decide (cs.length ≤ 1) && (pt.vars.all fun i => ws.contains i) && blkC N sc scope (ownOf N ws) && chkPat N (okDef scope) pt tg && chkl C N (relS scope sc) cs ifs && chk C N (relS scope sc) elt ee && chki C N sc it src iter
    | _ => false
  | sc, .mutl m i es, e => match e with
    | .Call (.Attribute o name apos) args [] cpos => chkName N sc i o && name == (mutP m).1 && (apos.endLine == cpos.line) && (es.all fun a => a.isOwn.isNone) && decide (args.length < 30) && chks C N sc es args
    | _ => false
def chks (C : Cfg) (N : List Str) : Scope → List E → List Expr → Bool
  | _, [], [] => true
  | sc, a :: as, e :: es => plainE e && (match a.isOwn with | some i => chkName N sc i e | none => chk C N sc a e) && chks C N sc as es
  | _, _, _ => false
def chkl (C : Cfg) (N : List Str) : Scope → List E → List Expr → Bool
  | _, [], [] => true
  | sc, a :: as, e :: es => chk C N sc a e && chkl C N sc as es
  | _, _, _ => false
def chkc (C : Cfg) (N : List Str) : Scope → List E → List Expr → Bool
  | _, [], [] => true
  | sc, a :: as, e :: es => plainE e && (match a.isGv with | some i => chkName N sc i e | none => chk C N sc a e) && chkc C N sc as es
  | _, _, _ => false
def chko (C : Cfg) (N : List Str) : Scope → List E → Option Expr → Bool
  | _, [], none => true
  | sc, a :: as, some e => as.isEmpty && chk C N sc a e
  | _, _, _ => false
def chki (C : Cfg) (N : List Str) : Scope → ItK → List E → Expr → Bool
  | sc, .seq, a :: as, e => as.isEmpty && a.isOwn.isNone && plainE e && chk C N sc a e
  | sc, .str, a :: as, e => as.isEmpty && a.isOwn.isNone && plainE e && chk C N sc a e
  | sc, .rng, a :: as, e => match e with
    | .Call (.Name f _) args [] _ => f == ("range" : Str) && glB sc f && (match args with
      | [x] => as.isEmpty && a.isOwn.isNone && plainE x && chk C N sc a x
      | [x, y] => a.isOwn.isNone && plainE x && chk C N sc a x && (as.all fun b => b.isOwn.isNone && plainE y) && chkl C N sc as [y]
      | _ => false)
    | _ => false
  | _, _, _, _ => false
end
end Rf

set_option Elab.async false
set_option linter.all false
set_option maxRecDepth 100000
set_option maxHeartbeats 4000000
namespace Rf
open PySem PySem.Spec PyProof.Rows L2

def bltNames : List Str := ["len", "all", "any", "ord", "isinstance", "range", "int", "bool", "str", "tuple", "list", "dict", "sorted", "repr", "min", "max", "sum", "abs", "enumerate", "zip", "set", "next"]
structure Cok (T : Tbl) (XR : Hp → Nat → List D → Value → Option Addr → Prop) (C : Cfg) (N : List Str) (sc : Scope) (W : WX) (X : Cx) : Prop where
  n : X.N = N
  sc : X.env.scope = sc
  nd : X.N.Nodup
  calm : X.calm = true
  gd : X.A.guards = some []
  un : X.A.units + 100 < cLine
  tk : Takes X W
  fns : ∀ k x, C.fns[k]? = some x → FnAt XR (T k) X x.1 x.2
  cs : ∀ p ∈ C.cs, ∃ u v, X.mg p.1 = some u ∧ scalV p.2 = some v ∧ RelV v u
  bl : ∀ x ∈ bltNames, X.mg x = none
theorem takes_false {X : Cx} : Takes X W0 := fun u s' h => by
  obtain ⟨_, _, _, _, _, _, _, _, _, _, _, _, _, _, _, _, z⟩ := h
  exact z.elim
theorem Cok.blk {T : Tbl} {XR : Hp → Nat → List D → Value → Option Addr → Prop} {C : Cfg} {N : List Str} {sc : Scope} {W : WX} {X : Cx} (c : Cok T XR C N sc W X) (s : Shared) (H : Hp) (scope : Scope) (Cc : Addr) (cl : List (Str × Addr)) (fp : List Addr) :
    Cok T XR C N (relS scope sc) W0 (X.blk s H scope (compEnvC scope cl Cc X.env) fp) := by
  refine ⟨c.n, ?_, c.nd, c.calm, c.gd, c.un, takes_false, fun k x e => ?_, c.cs, c.bl⟩
  · rw [← c.sc]; rfl
  · obtain ⟨lv, f, fd, h⟩ := (c.fns k x e).ok
    exact ⟨lv, f, fd, h⟩
def newP (p : P) : Bool := (binP p).isSome || (biP p).isSome || (tyP p).isSome
def fresh : E → Bool
  | .lst _ => true
  | .comp .. => true
  | .cut .. => true
  | .stp .. => true
  | .prim p _ => newP p
  | _ => false
structure Snd (T : Tbl) (XR : Hp → Nat → List D → Value → Option Addr → Prop) (W : WX) (X : Cx) (m : E) (e : Expr) : Prop where
  pe : PE X e (den T XR W m)
  pt : PT X e (denT T XR W m)
  pn : fresh m = true → PE X e (denN T XR W m)
/-- tests with a form of their own -/
def testE : Expr → Bool
  | .UnaryOp .Not _ _ => true
  | .BoolOp .. => true
  | .IfExp .. => true
  | .Compare .. => true
  | _ => false
theorem plain_test {e : Expr} {env : Env} (h : testE e = false) : ∀ whole, isTrue e env whole = (do let v ← whole; standAt e.pos; holding [v] (truthy v)) := by
  intro whole
  cases e with
  | UnaryOp op x p => cases op <;> first | rfl | (simp [testE] at h)
  | BoolOp => simp [testE] at h
  | IfExp => simp [testE] at h
  | Compare => simp [testE] at h
  | _ => rfl
section
variable {X : Cx} {T : Tbl} {XR : Hp → Nat → List D → Value → Option Addr → Prop} {W : WX} {C : Cfg} {N : List Str} {sc : Scope}
theorem Snd.mk1 {m : E} {e : Expr} (h : PE X e (den T XR W m)) (t : testE e = false) (n : fresh m = false) : Snd T XR W X m e := ⟨h, t_plain h (plain_test t), fun z => by rw [n] at z; cases z⟩
theorem Snd.mkN {m : E} {e : Expr} (h : PE X e (denN T XR W m)) (t : testE e = false) : Snd T XR W X m e := ⟨n_froze h, t_plain (n_froze h) (plain_test t), fun _ => h⟩
theorem nameOk_1 {x : Str} (h : nameOk x = true) : (x == ("__debug__" : Str)) = false ∧ (x == ("__classdict__" : Str)) = false ∧ x ≠ "__name__" := by
  unfold nameOk at h
  simp only [Bool.and_eq_true, Bool.not_eq_true'] at h
  refine ⟨h.1.1, h.1.2, fun z => ?_⟩
  rw [z] at h
  simp at h
theorem vis_of {x : Str} (c : X.env.scope = sc) (h : visB sc x = true) : Vis X.env.scope x := by
  rw [c]
  unfold visB at h
  split at h
  · rename_i e; exact .inl e
  · rename_i e; exact .inr (.inl e)
  · rename_i e; exact .inr (.inr e)
  · cases h
theorem gl_of {x : Str} (c : X.env.scope = sc) (h : glB sc x = true) : Gl X x := by
  unfold glB at h
  split at h
  · rename_i e
    show X.env.kindOf x = _
    unfold Env.kindOf
    rw [c]; exact e
  · cases h
theorem name_pe (c : Cok T XR C N sc W X) {i : Nat} {e : Expr} (h : chkName N sc i e = true) : ∃ x pos, e = .Name x pos ∧ X.N[i]? = some x ∧ Vis X.env.scope x ∧ (x == ("__debug__" : Str)) = false ∧ (x == ("__classdict__" : Str)) = false := by
  unfold chkName at h
  split at h
  · rename_i x pos
    simp only [Bool.and_eq_true, decide_eq_true_eq] at h
    obtain ⟨h1, h2, _⟩ := nameOk_1 h.2
    exact ⟨x, pos, rfl, by rw [c.n]; exact h.1.1, vis_of c.sc h.1.2, h1, h2⟩
  · cases h
theorem own_pe (c : Cok T XR C N sc W X) {i : Nat} {e : Expr} (h : chkName N sc i e = true) : PE X e (tVar i) := by
  obtain ⟨x, pos, rfl, h1, h2, h3, h4⟩ := name_pe c h
  exact pe_var h1 h2 h3 h4
theorem bl_of' (c : Cok T XR C N sc W X) {x : Str} (h : x ∈ bltNames) : X.mg x = none := c.bl x h
/-- the rule of a comparison -/
theorem cmp_rule (c : Cok T XR C N sc W X) {p : P} {op : CmpOp} (h : cmpP p = some op) : OpR X (compareOp op) (r2 New p) ∧ p.bl = true := by
  have u1 : X.A.units + 64 < cLine := by have := c.un; omega
  have u2 : X.A.units + 65 < cLine := by have := c.un; omega
  cases p <;> simp only [cmpP] at h <;> cases h
  · exact ⟨o_eq u1, rfl⟩
  · exact ⟨o_ne u1, rfl⟩
  · exact ⟨o_lt, rfl⟩
  · exact ⟨o_le, rfl⟩
  · exact ⟨o_gt, rfl⟩
  · exact ⟨o_ge, rfl⟩
  · exact ⟨o_in u2, rfl⟩
  · exact ⟨o_notin u2, rfl⟩
theorem bin_rule {p : P} {op : Operator} (h : binP p = some op) : OpR X (binaryOp op) (r2 New p) := by
  cases p <;> simp only [binP] at h <;> cases h
  · exact o_add
  · exact o_sub
  · exact o_mul
  · exact o_fdiv
  · exact o_mod
  · exact o_pow
theorem bi_rule (c : Cok T XR C N sc W X) {p : P} {x : String} (h : biP p = some x) : CallR X (.builtin x) (rc New p) ∧ bootBuiltins (Str.ofString x) = some (.builtin x) ∧ Str.ofString x ∈ bltNames := by
  cases p <;> simp only [biP] at h <;> cases h
  · exact ⟨c_len, by decide +kernel, by decide +kernel⟩
  · exact ⟨c_repr c.un c.gd, by decide +kernel, by decide +kernel⟩
  · exact ⟨c_all c.calm, by decide +kernel, by decide +kernel⟩
  · exact ⟨c_any c.calm, by decide +kernel, by decide +kernel⟩
  · exact ⟨c_ord, by decide +kernel, by decide +kernel⟩
  · exact ⟨c_min c.calm, by decide +kernel, by decide +kernel⟩
  · exact ⟨c_max c.calm, by decide +kernel, by decide +kernel⟩
  · exact ⟨c_sorted c.un, by decide +kernel, by decide +kernel⟩
  · exact ⟨c_abs, by decide +kernel, by decide +kernel⟩
theorem ty_rule (c : Cok T XR C N sc W X) {p : P} {x : String} (h : tyP p = some x) : CallR X (.type x) (rc New p) ∧ bootBuiltins (Str.ofString x) = some (.type x) ∧ Str.ofString x ∈ bltNames := by
  cases p <;> simp only [tyP] at h <;> cases h
  · exact ⟨c_int, by decide +kernel, by decide +kernel⟩
  · exact ⟨c_str, by decide +kernel, by decide +kernel⟩
  · exact ⟨c_tuple, by decide +kernel, by decide +kernel⟩
  · exact ⟨c_list, by decide +kernel, by decide +kernel⟩
  · exact ⟨c_dict c.calm, by decide +kernel, by decide +kernel⟩
theorem mth_rule (c : Cok T XR C N sc W X) {p : P} {x : String × String} (h : mthP p = some x) : MtR X x.2 (rm Old p) ∧ PySem.Slot (tyP2 p) (Str.ofString x.1) x.2 ∧ typeOf (.builtin x.2) = pure (.type "method_descriptor") ∧ PlainAttrs (tyP2 p) := by
  have un := c.un
  cases p <;> simp only [mthP] at h <;> cases h
  · exact ⟨q_index (by omega), PySem.F.slot_list_index, PySem.F.type_list_index, PySem.F.plainAttrs_list⟩
  · exact ⟨q_get (by omega), PySem.F.slot_dict_get, PySem.F.type_dict_get, PySem.F.plainAttrs_dict⟩
  · exact ⟨q_upper, PySem.F.slot_str_upper, PySem.F.type_str_upper, PySem.F.plainAttrs_str⟩
theorem ty_boot (t : Ty) : bootBuiltins (Str.ofString t.name) = some (.type t.name) ∧ Str.ofString t.name ∈ bltNames := by
  cases t <;> exact ⟨by decide +kernel, by decide +kernel⟩
theorem mut_rule (m : MutK) : MtR X (mutP m).2 (rMut m) ∧ PySem.Slot "list" (mutP m).1 (mutP m).2 ∧ typeOf (.builtin (mutP m).2) = pure (.type "method_descriptor") := by
  cases m
  · exact ⟨m_append, PySem.F.slot_list_append, PySem.F.type_list_append⟩
  · exact ⟨m_extend, PySem.F.slot_list_extend, PySem.F.type_list_extend⟩
  · exact ⟨m_pop, PySem.F.slot_list_pop, PySem.F.type_list_pop⟩
  · exact ⟨m_popLast, PySem.F.slot_list_pop, PySem.F.type_list_pop⟩
theorem isNone_eq {e : Expr} (h : isNone e = true) : ∃ j p, e = .Constant .none j p := by
  unfold isNone at h
  split at h
  · exact ⟨_, _, rfl⟩
  · cases h
theorem all2_of (c : Cok T XR C N sc W X) : ∀ {es : List E} {xs : List Expr}, (∀ a ∈ es, ∀ e, chk C N sc a e = true → Snd T XR W X a e) → chks C N sc es xs = true → All2 X T XR W es xs
  | [], [], _, _ => .nil
  | [], _ :: _, _, h => by simp [chks] at h
  | _ :: _, [], _, h => by simp [chks] at h
  | a :: as, e :: xs, ih, h => by
    simp only [chks, Bool.and_eq_true] at h
    refine .cons ?_ h.1.1 (all2_of c (fun b hb => ih b (List.mem_cons_of_mem _ hb)) h.2)
    unfold tE
    cases q : a.isOwn with
    | some i => have h2 := h.1.2; rw [q] at h2; exact own_pe c h2
    | none => have h2 := h.1.2; rw [q] at h2; exact (ih a (by simp) e h2).pe
theorem all3_of (c : Cok T XR C N sc W X) : ∀ {es : List E} {xs : List Expr}, (∀ a ∈ es, ∀ e, chk C N sc a e = true → Snd T XR W X a e) → chkc C N sc es xs = true → All3 X T XR W es xs
  | [], [], _, _ => .nil
  | [], _ :: _, _, h => by simp [chkc] at h
  | _ :: _, [], _, h => by simp [chkc] at h
  | a :: as, e :: xs, ih, h => by
    simp only [chkc, Bool.and_eq_true] at h
    refine .cons ?_ h.1.1 (all3_of c (fun b hb => ih b (List.mem_cons_of_mem _ hb)) h.2)
    unfold tC1
    cases q : a.isGv with
    | some i => have h2 := h.1.2; rw [q] at h2; exact own_pe c h2
    | none => have h2 := h.1.2; rw [q] at h2; exact (ih a (by simp) e h2).pe
mutual
theorem pat_pg {N : List Str} {ok : Str → Bool} (hn : X.N = N) (nd : X.N.Nodup) (hc : X.calm = true) (hok : ∀ x, ok x = true → Loc X.env.scope x ∧ (X.fn x = true ∨ X.env.scope.names.lookup x = some .local)) : ∀ (p : Pat) (e : Expr), chkPat N ok p e = true → PG X e (patG X.K p)
  | .nm i, e, h => by
    simp only [chkPat] at h
    split at h
    · rename_i x pos
      simp only [Bool.and_eq_true, decide_eq_true_eq] at h
      obtain ⟨h1, h2⟩ := hok x h.2
      exact pg_name nd (by rw [hn]; exact h.1) h1 h2
    · cases h
  | .tp ps, e, h => by
    simp only [chkPat] at h
    split at h
    · rename_i es k pos
      obtain ⟨h1, h2, h3⟩ := pats_pg hn nd hc hok ps es h
      exact pg_tup hc h1 (by rw [asg_len, h2]) (asg_none h3)
    · cases h
theorem pats_pg {N : List Str} {ok : Str → Bool} (hn : X.N = N) (nd : X.N.Nodup) (hc : X.calm = true) (hok : ∀ x, ok x = true → Loc X.env.scope x ∧ (X.fn x = true ∨ X.env.scope.names.lookup x = some .local)) : ∀ (ps : List Pat) (es : List Expr), chkPats N ok ps es = true → PGs X es (patGs X.K ps) ∧ es.length = ps.length ∧ es.all plainE = true
  | [], [], _ => ⟨pgs_nil, rfl, rfl⟩
  | [], _ :: _, h => by simp [chkPats] at h
  | _ :: _, [], h => by simp [chkPats] at h
  | p :: ps, e :: es, h => by
    simp only [chkPats, Bool.and_eq_true] at h
    obtain ⟨h1, h2, h3⟩ := pats_pg hn nd hc hok ps es h.2
    exact ⟨pgs_cons (pat_pg hn nd hc hok p e h.1.2) h1 (by rw [asg_plain h.1.1]; rfl), by simp [h2], by rw [List.all_cons, h.1.1, h3]; rfl⟩
end
end
end Rf

set_option Elab.async false
set_option linter.all false
set_option maxRecDepth 100000
set_option maxHeartbeats 8000000
namespace Rf
open PySem PySem.Spec PyProof.Rows L2

theorem relS_loc {N : List Str} {sc scope : Scope} {x : Str} (h : okDef scope x = true) : Loc (relS scope sc) x ∧ ((scope.names.lookup x == some NameKind.cell) = true ∨ (relS scope sc).names.lookup x = some .local) := by
  unfold okDef at h
  split at h
  · rename_i e
    have := lookup_relS_keep (sc := sc) (k := .local) (by decide) e
    exact ⟨.inl this, .inr this⟩
  · rename_i e
    have := lookup_relS_keep (sc := sc) (k := .cell) (by decide) e
    exact ⟨.inr this, .inl (by rw [e]; rfl)⟩
  · cases h
section
variable {X : Cx} {T : Tbl} {XR : Hp → Nat → List D → Value → Option Addr → Prop} {W : WX} {C : Cfg} {N : List Str} {sc : Scope}
theorem den_own {a : E} {e : Expr} (c : Cok T XR C N sc W X) (hs : ∀ e, chk C N sc a e = true → Snd T XR W X a e) (h : (match a.isOwn with | some i => chkName N sc i e | none => chk C N sc a e) = true) : PE X e (tE T XR W a) := by
  unfold tE
  cases q : a.isOwn with
  | some i => rw [q] at h; exact own_pe c h
  | none => rw [q] at h; exact (hs e h).pe
theorem po_of {lo : List E} {e : Option Expr} (hs : ∀ a ∈ lo, ∀ e, chk C N sc a e = true → Snd T XR W X a e) (h : chko C N sc lo e = true) : PO X e (tP T XR W lo) := by
  cases lo with
  | nil => cases e with
    | none => exact po_none
    | some e => simp [chko] at h
  | cons a as => cases e with
    | none => simp [chko] at h
    | some e =>
      simp only [chko, Bool.and_eq_true] at h
      exact po_some (hs a (by simp) e h.2).pe
theorem pw_of {op : BoolOp} {vs : List Expr} {pos : Pos} {t : TT} (h : PT X (.BoolOp op vs pos) t) : PW X (.BoolOp op vs pos) t := ⟨fun wh pins s σ H Q I w => h.run pins s σ H Q I w⟩
theorem tBl {m : E} {σ : L2.St} {H : Hp} {Q : Bool → Hp → Prop} (hb : ∀ st d st', ev T m st = .ok d st' → ∃ k, d = .bl k) (h : denT T XR W m σ H Q) : den T XR W m σ H fun v H' => ∃ k, v = .bl k ∧ Q k H' := by
  obtain ⟨F, st, I, h⟩ := h
  refine ⟨F, st, I, ?_⟩
  cases q : ev T m st with
  | bad => rw [q] at h; exact h
  | exc => rw [q] at h; exact h
  | ok d s1 =>
    rw [q] at h
    obtain ⟨k, rfl⟩ := hb _ _ _ q
    intro H1 p1 I1 v rv
    obtain ⟨k', e', q'⟩ := h H1 p1 I1
    cases e'
    exact ⟨k, rv, q'⟩
theorem chain_bl {p q : P} {a b d : E} (hq : q.bl = true) : ∀ st r st', ev T (.chain p q a b d) st = .ok r st' → ∃ k, r = .bl k := by
  intro st r st' h
  simp only [ev] at h
  cases e1 : ev T a st with
  | bad => rw [e1] at h; cases h
  | exc => rw [e1] at h; cases h
  | ok x s1 =>
    rw [e1] at h
    simp only [Res.bind] at h
    cases e2 : ev T b s1 with
    | bad => rw [e2] at h; cases h
    | exc => rw [e2] at h; cases h
    | ok y s2 =>
      rw [e2] at h
      simp only at h
      split at h
      · cases e3 : ev T d s2 with
        | bad => rw [e3] at h; cases h
        | exc => rw [e3] at h; cases h
        | ok z s3 =>
          rw [e3] at h
          simp only [ofOpt] at h
          split at h
          · rename_i e4
            cases h
            exact bl_bl hq _ _ e4
          · cases h
      · cases h; exact ⟨false, rfl⟩
      · cases h
theorem t_chain {p q : P} {o1 o2 : CmpOp} {a b d : E} {ea eb ec : Expr} {pos : Pos} (hq : q.bl = true) (h1 : OpR X (compareOp o1) (r2 New p)) (h2 : OpR X (compareOp o2) (r2 New q)) (ha : PE X ea (den T XR W a)) (hb : PE X eb (den T XR W b)) (hc : PE X ec (den T XR W d)) (hp : plainE ec = true) :
    PT X (.Compare ea [o1, o2] [eb, ec] pos) (denT T XR W (.chain p q a b d)) := by
  refine ptOf (pt_chain (OpR.froze h1) (OpR.froze h2) ha hb hc (by show behindInMarks o2 ec = false; exact mark_plain hp _)) fun σ H Q w => ?_
  exact chainGo (tBl (chain_bl hq) w)
theorem key_pe {k : Key} {e : Expr} (h : keyE k e = true) : PE X e (tC (kV k)) ∧ plainE e = true := by
  unfold keyE at h
  split at h
  · simp only [decide_eq_true_eq] at h; subst h; exact ⟨pe_str, rfl⟩
  · simp only [decide_eq_true_eq] at h; subst h; exact ⟨pe_int, rfl⟩
  · cases h
theorem pi_of {it : ItK} {src : List E} {tg e : Expr} (c : Cok T XR C N sc W X) (hs : ∀ a ∈ src, ∀ e, chk C N sc a e = true → Snd T XR W X a e) (h : chki C N sc it src e = true) : PI X tg e (iD T XR W it src) := by
  cases src with
  | nil => cases it <;> simp [chki] at h
  | cons a as =>
    cases it with
    | seq =>
      simp only [chki, Bool.and_eq_true, List.isEmpty_iff, Option.isNone_iff_eq_none] at h
      obtain ⟨⟨⟨rfl, h2⟩, h3⟩, h4⟩ := h
      exact it_seq h2 (hs a (by simp) e h4).pe
    | str =>
      simp only [chki, Bool.and_eq_true, List.isEmpty_iff, Option.isNone_iff_eq_none] at h
      obtain ⟨⟨⟨rfl, h2⟩, h3⟩, h4⟩ := h
      exact it_str h2 (hs a (by simp) e h4).pe
    | rng =>
      simp only [chki] at h
      split at h
      · simp only [Bool.and_eq_true] at h
        obtain ⟨⟨h1, h2⟩, h3⟩ := h
        obtain rfl := eq_of_beq h1
        have gl := gl_of c.sc h2
        have mg := c.bl "range" (by decide +kernel)
        split at h3
        · simp only [Bool.and_eq_true, List.isEmpty_iff, Option.isNone_iff_eq_none] at h3
          obtain ⟨⟨⟨rfl, q2⟩, q3⟩, q4⟩ := h3
          exact it_rng1 gl mg q3 q2 (hs a (by simp) _ q4).pe
        · simp only [Bool.and_eq_true, List.all_eq_true, Option.isNone_iff_eq_none] at h3
          obtain ⟨⟨⟨⟨q1, q2⟩, q3⟩, q4⟩, q5⟩ := h3
          cases as with
          | nil => simp [chkl] at q5
          | cons b as =>
            cases as with
            | cons b2 as => simp [chkl] at q5
            | nil =>
              simp only [chkl, Bool.and_eq_true] at q5
              obtain ⟨z1, z2⟩ := q4 b (by simp)
              exact it_rng2 gl mg q2 z2 q1 z1 (hs a (by simp) _ q3).pe (hs b (by simp) _ q5.1).pe
        · cases h3
      · cases h
    | enum => simp [chki] at h
    | zip => simp [chki] at h
    | itms => simp [chki] at h
theorem pts_of {cs : List E} {ifs : List Expr} (c : Cok T XR C N sc W0 X) (h1 : cs.length ≤ 1) (hs : ∀ a ∈ cs, ∀ e, chk C N sc a e = true → Snd T XR W0 X a e) (h : chkl C N sc cs ifs = true) : PTs X ifs (tCs T XR W0 cs) := by
  cases cs with
  | nil => cases ifs with
    | nil => exact pts_nil
    | cons e es => simp [chkl] at h
  | cons a as =>
    cases as with
    | cons b bs => simp at h1
    | nil =>
      cases ifs with
      | nil => simp [chkl] at h
      | cons e es =>
        cases es with
        | cons _ _ => simp [chkl] at h
        | nil =>
          simp only [chkl, Bool.and_eq_true] at h
          exact pts_one (hs a (by simp) e h.1).pt
theorem set_plain {e : Expr} {env : Env} (h : plainE e = true) : ∀ x, foldedSetIterable e env x = pure x := by
  intro x
  cases e <;> first | rfl | (simp [plainE] at h)
theorem set_it {it : ItK} {src : List E} {e : Expr} {env : Env} (h : chki C N sc it src e = true) : ∀ x, foldedSetIterable e env x = pure x := by
  cases src with
  | nil => cases it <;> simp [chki] at h
  | cons a as =>
    cases it with
    | seq => simp only [chki, Bool.and_eq_true] at h; exact set_plain h.1.2
    | str => simp only [chki, Bool.and_eq_true] at h; exact set_plain h.1.2
    | rng =>
      simp only [chki] at h
      split at h
      · exact set_plain rfl
      · cases h
    | enum => simp [chki] at h
    | zip => simp [chki] at h
    | itms => simp [chki] at h
theorem callB_of (c : Cok T XR C N sc W X) {k : Nat} {f : Str} {args : List Expr} {kws : List Keyword} (h : callB C sc k f args kws = true) :
    ∃ ps, FnAt XR (T k) X f ps ∧ Gl X f ∧ (f == ("__debug__" : Str)) = false ∧ kws.map (·.arg) = ((ps.drop args.length).take kws.length).map some ∧ (kws = [] ∨ args.length + kws.length = ps.length) := by
  unfold callB at h
  simp only [Bool.and_eq_true] at h
  obtain ⟨⟨h1, h2⟩, h3⟩ := h
  split at h3
  · rename_i g ps e
    simp only [Bool.and_eq_true, Bool.or_eq_true, decide_eq_true_eq] at h3
    obtain ⟨⟨q1, q2⟩, q3⟩ := h3
    obtain rfl := eq_of_beq q1
    exact ⟨ps, c.fns _ _ e, gl_of c.sc h1, (nameOk_1 h2).1, q2, by simpa using q3⟩
  · cases h3
/-- the small text says what the Python text does -/
theorem sound : ∀ (n : Nat) (m : E), sizeOf m < n → ∀ (sc : Scope) (W : WX) (X : Cx) (e : Expr), Cok T XR C N sc W X → chk C N sc m e = true → Snd T XR W X m e
  | 0, m, h => by omega
  | n + 1, m, hm => fun sc W X e c h => by
    have ih := sound n
    have il : ∀ {es : List E}, sizeOf es < n → ∀ a ∈ es, ∀ e, chk C N sc a e = true → Snd T XR W X a e := fun {es} hl a ha e he => ih a (by have := List.sizeOf_lt_of_mem ha; omega) sc W X e c he
    cases m with
    | var i =>
      simp only [chk] at h
      obtain ⟨x, pos, rfl, h1, h2, h3, h4⟩ := name_pe c h
      exact .mk1 (s_var h1 h2 h3 h4) rfl rfl
    | own i => simp [chk] at h
    | gv i => simp [chk] at h
    | take i => simp [chk] at h
    | kint i =>
      simp only [chk] at h
      split at h
      · obtain rfl := eq_of_beq h
        exact .mk1 s_int rfl rfl
      · cases h
    | kstr x =>
      simp only [chk] at h
      split at h
      · simp only [Bool.and_eq_true, decide_eq_true_eq] at h
        exact .mk1 (s_str (eq_of_beq h.1) h.2) rfl rfl
      · cases h
    | kbl b =>
      simp only [chk] at h
      split at h
      · obtain rfl := eq_of_beq h
        exact .mk1 s_bl rfl rfl
      · cases h
    | knon =>
      simp only [chk] at h
      obtain ⟨j, p, rfl⟩ := isNone_eq h
      exact .mk1 s_non rfl rfl
    | glo x d =>
      simp only [chk] at h
      split at h
      · simp only [Bool.and_eq_true, List.any_eq_true] at h
        obtain ⟨⟨⟨h1, h2⟩, h3⟩, p, hp, h4, h5⟩ := h
        obtain rfl := eq_of_beq h1
        obtain ⟨u, v, q1, q2, q3⟩ := c.cs p hp
        rw [eq_of_beq h4] at q1
        rw [scalEq_eq h5] at q2
        exact .mk1 (s_glo (gl_of c.sc h2) q1 q2 q3 (nameOk_1 h3).1) rfl rfl
      · cases h
    | and a b =>
      have sa : sizeOf a < n := by simp at hm; omega
      have sb : sizeOf b < n := by simp at hm; omega
      simp only [chk] at h
      split at h
      · rename_i ea rest pos
        simp only [Bool.and_eq_true] at h
        have A := ih a sa sc W X ea c h.1
        cases rest with
        | nil => simp at h
        | cons eb rest =>
          cases rest with
          | nil =>
            have B := ih b sb sc W X eb c h.2
            exact ⟨s_and A.pe (s_and1 B.pe), (t_and A.pt (t_and1 B.pt)).pt, fun z => by cases z⟩
          | cons e3 rest =>
            have h2 := h.2
            simp only [Bool.and_eq_true] at h2
            have B := ih b sb sc W X (.BoolOp .And (eb :: e3 :: rest) pos) c h2.2
            exact ⟨s_and A.pe B.pe, (t_and A.pt (pw_of B.pt)).pt, fun z => by cases z⟩
      · cases h
    | or a b =>
      have sa : sizeOf a < n := by simp at hm; omega
      have sb : sizeOf b < n := by simp at hm; omega
      simp only [chk] at h
      split at h
      · rename_i ea rest pos
        simp only [Bool.and_eq_true] at h
        have A := ih a sa sc W X ea c h.1
        cases rest with
        | nil => simp at h
        | cons eb rest =>
          cases rest with
          | nil =>
            have B := ih b sb sc W X eb c h.2
            exact ⟨s_or A.pe (s_and1 B.pe), (t_or A.pt (t_and1 B.pt)).pt, fun z => by cases z⟩
          | cons e3 rest =>
            have h2 := h.2
            simp only [Bool.and_eq_true] at h2
            have B := ih b sb sc W X (.BoolOp .Or (eb :: e3 :: rest) pos) c h2.2
            exact ⟨s_or A.pe B.pe, (t_or A.pt (pw_of B.pt)).pt, fun z => by cases z⟩
      · cases h
    | not a =>
      have sa : sizeOf a < n := by simp at hm; omega
      simp only [chk] at h
      split at h
      · rename_i ea pos
        have A := ih a sa sc W X ea c h
        exact ⟨s_not A.pe, t_not A.pt, fun z => by cases z⟩
      · cases h
    | ite a b d =>
      have sa : sizeOf a < n := by simp at hm; omega
      have sb : sizeOf b < n := by simp at hm; omega
      have sd : sizeOf d < n := by simp at hm; omega
      simp only [chk] at h
      split at h
      · simp only [Bool.and_eq_true] at h
        have A := ih a sa sc W X _ c h.1.1
        have B := ih b sb sc W X _ c h.1.2
        have Dd := ih d sd sc W X _ c h.2
        exact ⟨s_ite A.pt B.pe Dd.pe, t_ite A.pt B.pt Dd.pt, fun z => by cases z⟩
      · cases h
    | prim p es =>
      have se : sizeOf es < n := by simp at hm; omega
      have al := fun {xs : List Expr} (w : chks C N sc es xs = true) => all2_of c (il se) w
      simp only [chk] at h
      split at h
      · rename_i l op r pos
        simp only [Bool.and_eq_true, decide_eq_true_eq] at h
        have A := al h.2
        cases A with
        | cons a1 _ A => cases A with
          | cons a2 _ A => cases A; exact .mkN (n_bin (bin_rule h.1) a1 a2) rfl
      · rename_i x pos
        simp only [Bool.and_eq_true, decide_eq_true_eq] at h
        obtain ⟨rfl, h2⟩ := h
        have A := al h2
        cases A with
        | cons a1 _ A => cases A; exact .mk1 (s_neg a1) rfl rfl
      · rename_i l op r pos
        have isN : ∀ {q : P}, p = q → (q = .isNone ∨ q = .notNone) → fresh (.prim p es) = false := by rintro q rfl (rfl | rfl) <;> rfl
        by_cases hn : p = .isNone
        · subst hn
          simp only [Bool.and_eq_true, decide_eq_true_eq] at h
          obtain ⟨⟨rfl, h2⟩, h3⟩ := h
          obtain ⟨j, pp, rfl⟩ := isNone_eq h2
          have A := al h3
          cases A with
          | cons a1 _ A => cases A; exact ⟨s_isN a1, t_isN a1, fun z => by cases z⟩
        · by_cases hn2 : p = .notNone
          · subst hn2
            simp only [Bool.and_eq_true, decide_eq_true_eq] at h
            obtain ⟨⟨rfl, h2⟩, h3⟩ := h
            obtain ⟨j, pp, rfl⟩ := isNone_eq h2
            have A := al h3
            cases A with
            | cons a1 _ A => cases A; exact ⟨s_notN a1, t_notN a1, fun z => by cases z⟩
          · have h : (decide (cmpP p = some op) && chks C N sc es [l, r]) = true := by
              cases p <;> first | exact h | exact absurd rfl hn | exact absurd rfl hn2
            simp only [Bool.and_eq_true, decide_eq_true_eq] at h
            obtain ⟨r1, r2⟩ := cmp_rule c h.1
            have A := al h.2
            cases A with
            | cons a1 _ A => cases A with
              | cons a2 pl A =>
                cases A
                refine ⟨s_cmp r1 a1 a2 (mark_plain pl _), t_cmp (bl_bl r2) r1 a1 a2 (mark_plain pl _), fun z => ?_⟩
                cases p <;> simp [P.bl] at r2 <;> cases z
      · rename_i v s2 pos
        simp only [Bool.and_eq_true, decide_eq_true_eq] at h
        obtain ⟨rfl, h2⟩ := h
        have A := al h2
        cases A with
        | cons a1 _ A => cases A with
          | cons a2 pl A => cases A; exact .mk1 (s_ix (by have := c.un; omega) a1 a2 pl) rfl rfl
      · rename_i f pp args pos
        simp only [Bool.and_eq_true] at h
        obtain ⟨⟨h1, h2⟩, h3⟩ := h
        obtain ⟨d1, d2, d3⟩ := nameOk_1 h2
        have gl := gl_of c.sc h1
        have gen : (((match biP p with | some x => f == Str.ofString x | none => false) || (match tyP p with | some x => f == Str.ofString x | none => false)) && !args.isEmpty && chks C N sc es args) = true → Snd T XR W X (.prim p es) (.Call (.Name f pp) args [] pos) := by
          intro h
          simp only [Bool.and_eq_true, Bool.or_eq_true] at h
          obtain ⟨⟨g1, g2⟩, g3⟩ := h
          have A := al g3
          cases A with
          | nil => simp at g2
          | cons a1 pl A =>
            rcases g1 with g1 | g1
            · split at g1
              · rename_i x ex
                obtain rfl := eq_of_beq g1
                obtain ⟨r1, r2, r3⟩ := bi_rule c ex
                exact .mkN (n_callB r1 gl (c.bl _ r3) r2 d3 d1 (.cons a1 pl A)) rfl
              · cases g1
            · split at g1
              · rename_i x ex
                obtain rfl := eq_of_beq g1
                obtain ⟨r1, r2, r3⟩ := ty_rule c ex
                exact .mkN (n_callTy r1 gl (c.bl _ r3) r2 d3 d1 (.cons a1 pl A)) rfl
              · cases g1
        split at h3
        · rename_i t
          simp only [Bool.and_eq_true] at h3
          obtain ⟨h3, h4⟩ := h3
          obtain rfl := eq_of_beq h3
          split at h4
          · rename_i ea ty p2
            simp only [Bool.and_eq_true] at h4
            obtain ⟨⟨h5, h6⟩, h7⟩ := h4
            obtain rfl := eq_of_beq h5
            obtain ⟨t1, t2⟩ := ty_boot t
            have A := al h7
            cases A with
            | cons a1 pl A =>
              cases A
              exact .mk1 (s_isa gl (c.bl _ (by decide +kernel)) boot_isinstance d3 d1 (gl_of c.sc h6) (c.bl _ t2) t1 (by cases t <;> decide +kernel) (by cases t <;> decide +kernel) a1 pl) rfl rfl
          · cases h4
        · exact gen h3
      · cases h
    | chain p q a b d =>
      have sa : sizeOf a < n := by simp at hm; omega
      have sb : sizeOf b < n := by simp at hm; omega
      have sd : sizeOf d < n := by simp at hm; omega
      simp only [chk] at h
      split at h
      · simp only [Bool.and_eq_true, decide_eq_true_eq] at h
        obtain ⟨⟨⟨⟨⟨h1, h2⟩, h3⟩, h4⟩, h5⟩, h6⟩ := h
        obtain ⟨r1, _⟩ := cmp_rule c h1
        obtain ⟨r2, b2⟩ := cmp_rule c h2
        have A := ih a sa sc W X _ c h4
        have B := ih b sb sc W X _ c h5
        have Dd := ih d sd sc W X _ c h6
        exact ⟨s_chain r1 r2 A.pe B.pe Dd.pe h3, t_chain b2 r1 r2 A.pe B.pe Dd.pe h3, fun z => by cases z⟩
      · cases h
    | cut a lo hi =>
      have sa : sizeOf a < n := by simp at hm; omega
      have sl : sizeOf lo < n := by simp at hm; omega
      have sh : sizeOf hi < n := by simp at hm; omega
      simp only [chk] at h
      split at h
      · simp only [Bool.and_eq_true] at h
        obtain ⟨⟨⟨h1, h2⟩, h3⟩, h4⟩ := h
        exact .mkN (n_cut (den_own c (fun e he => ih a sa sc W X e c he) h2) (po_of (il sl) h3) (po_of (il sh) h4)) rfl
      · cases h
    | stp a lo k =>
      have sa : sizeOf a < n := by simp at hm; omega
      have sl : sizeOf lo < n := by simp at hm; omega
      simp only [chk] at h
      split at h
      · simp only [Bool.and_eq_true] at h
        obtain ⟨⟨⟨h1, h2⟩, h3⟩, h4⟩ := h
        exact .mkN (n_stp (den_own c (fun e he => ih a sa sc W X e c he) h2) (po_of (il sl) h3) h4) rfl
      · cases h
    | mth p a es =>
      have sa : sizeOf a < n := by simp at hm; omega
      have se : sizeOf es < n := by simp at hm; omega
      simp only [chk] at h
      split at h
      · rename_i o name apos args cpos
        simp only [Bool.and_eq_true, decide_eq_true_eq] at h
        obtain ⟨⟨⟨⟨⟨⟨⟨h1, h2⟩, h3⟩, h4⟩, h5⟩, h6⟩, h7⟩, h8⟩ := h
        split at h4
        · rename_i x ex
          obtain rfl := eq_of_beq h4
          obtain ⟨r1, r2, r3, r4⟩ := mth_rule c ex
          exact .mk1 (s_mth r1 r4 r2 r3 (ih a sa sc W X o c h3).pe h2 h6 (all2_of c (il se) h8) h5 h7) rfl rfl
        · cases h4
      · cases h
    | tup es =>
      have se : sizeOf es < n := by simp at hm; omega
      simp only [chk] at h
      split at h
      · simp only [Bool.and_eq_true] at h
        exact .mk1 (s_tup (all2_of c (il se) h.2) h.1) rfl rfl
      · cases h
    | lst es =>
      have se : sizeOf es < n := by simp at hm; omega
      simp only [chk] at h
      split at h
      · simp only [Bool.and_eq_true] at h
        exact .mkN (n_lst (all2_of c (il se) h.2) h.1) rfl
      · cases h
    | dic ks es => simp [chk] at h
    | call k es =>
      have se : sizeOf es < n := by simp at hm; omega
      simp only [chk] at h
      split at h
      · rename_i f pp args kws pos
        rw [Bool.and_eq_true] at h
        obtain ⟨ps, g1, g2, g3, g4, g5⟩ := callB_of c h.1
        exact .mk1 (s_call (x := f) (ps := ps) g1 c.gd c.tk g2 g3 (all3_of c (il se) h.2) g4 g5) rfl rfl
      · cases h
    | gget i k =>
      simp only [chk] at h
      split at h
      · simp only [Bool.and_eq_true] at h
        obtain ⟨x, pos, rfl, h1, h2, h3, h4⟩ := name_pe c h.1
        obtain ⟨k1, k2⟩ := key_pe (X := X) h.2
        exact .mk1 (s_gget h1 h2 h3 h4 (by have := c.un; omega) k1 k2) rfl rfl
      · cases h
    | comp elt pt it src cs ws =>
      have se : sizeOf elt < n := by simp at hm; omega
      have ss : sizeOf src < n := by simp at hm; omega
      have scs : sizeOf cs < n := by simp at hm; omega
      simp only [chk] at h
      split at h
      · rename_i ee tg iter ifs scope pos
        simp only [Bool.and_eq_true, decide_eq_true_eq, List.all_eq_true] at h
        obtain ⟨⟨⟨⟨⟨⟨h1, h2⟩, h3⟩, h4⟩, h5⟩, h6⟩, h7⟩ := h
        have bo : BlkOk X.N X.env.scope scope (ownOf N ws) := by
          have := blkOk_by h3
          rw [c.n, c.sc]
          exact this
        have wo : (ownOf N ws).map (·.2) = ws := by
          unfold ownOf
          rw [List.map_map]
          exact List.map_id' _
        have pg : ∀ (s : Shared) (H : Hp) (Cc : Addr) (cl : List (Str × Addr)) (fp : List Addr), PG (X.blk s H scope (compEnvC scope cl Cc X.env) fp) tg (patG X.K pt) := fun s H Cc cl fp =>
          pat_pg (X := X.blk s H scope (compEnvC scope cl Cc X.env) fp) (N := N) (ok := okDef scope) c.n c.nd c.calm (fun x hx => by
            obtain ⟨q1, q2⟩ := relS_loc (N := N) (sc := X.env.scope) hx
            exact ⟨q1, q2⟩) pt tg h4
        have lc := pe_lc (pos := pos) (iter := iter) (tt := tCs T XR W0 cs) (te := den T XR W0 elt) (wi := iD T XR W it src) c.calm c.nd (pi_of c (il ss) h7) bo pg (fun s H Cc cl fp => pts_of (c.blk s H scope Cc cl fp) h1 (fun a ha e he => ih a (by have := List.sizeOf_lt_of_mem ha; omega) _ W0 _ e (c.blk s H scope Cc cl fp) he) h5)
          (fun s H Cc cl fp => (ih elt se _ W0 _ ee (c.blk s H scope Cc cl fp) h6).pe) (set_it h7)
        rw [wo] at lc
        exact .mkN (peOf lc fun σ H Q w => n_comp (F := ⟨[], H, []⟩) h1 (fun i hi => by simpa using h2 i hi) w) rfl
      · cases h
    | mutl mk i es =>
      have se : sizeOf es < n := by simp at hm; omega
      simp only [chk] at h
      split at h
      · simp only [Bool.and_eq_true, decide_eq_true_eq] at h
        obtain ⟨⟨⟨⟨⟨h1, h2⟩, h3⟩, h4⟩, h5⟩, h6⟩ := h
        obtain ⟨x, pos, rfl, g1, g2, g3, g4⟩ := name_pe c h1
        obtain ⟨m1, m2, m3⟩ := mut_rule (X := X) mk
        obtain rfl := eq_of_beq h2
        exact .mk1 (s_mut m1 PySem.F.plainAttrs_list m2 m3 g1 g2 g3 g4 h4 (all2_of c (il se) h6) h3 h5) rfl rfl
      · cases h
end
end Rf

set_option Elab.async false
set_option linter.all false
set_option maxRecDepth 100000
set_option maxHeartbeats 4000000
namespace Rf
open PySem PySem.Spec PyProof.Rows L2

/-! ### statements -/
inductive S where
  | set (p : Pat) (m : E)
  | setOwn (i : Nat) (m : E)
  | par (i j : Nat) (oi oj : Bool) (a b : E)
  | gset (i : Nat) (k : Key) (m : E)
  | drop (m : E)
  | ret (m : E) | retN
  | ifS (c : E) (a b : List S)
  | forS (p : Pat) (it : ItK) (src : List E) (body : List S)
  | matchS (m : E) (cs : List S)
  | caseK (k : List Nat) (b : List S) | caseD (b : List S)
  | freeze (i : Nat)
  | aug (i : Nat) (p : P) (m : E)
  | retDic (ks : List Key) (es : List E) | gcall (i k : Nat) (es : List E)
  | brk | cont | pass
inductive SRes where
  | nx (s : Sx) | ret (d : D) (s : Sx) | retG (kd : Gd) (s : Sx) | bk (s : Sx) | ct (s : Sx) | exc (c : Nat) (fs : List D) (s : Sx) | bad
def onE {α : Type} (r : Res α) (f : α → Sx → SRes) : SRes := match r with
  | .ok d s => f d s
  | .exc c fs s => .exc c fs s
  | .bad => .bad
def loopS (b : D → List Slot → Option (List Slot)) (f : Sx → SRes) : List D → Sx → SRes
  | [], st => .nx st
  | x :: xs, st => match b x st.r with
    | none => .bad
    | some r1 => match f ⟨r1, st.g⟩ with
      | .nx s => loopS b f xs s
      | .ct s => loopS b f xs s
      | .bk s => .nx s
      | r => r
/-- a list or a datum put into a slot -/
def putS (own : Bool) (i : Nat) (d : D) (r : List Slot) : Option (List Slot) := if i < r.length then (match own, d with
  | true, .lst xs => some (r.set i (.own xs))
  | true, _ => none
  | false, d => some (r.set i (.val d))) else none
mutual
def run (T : Tbl) : S → Sx → SRes
  | .set p m, st => onE (ev T m st) fun d s => match bindP p d s.r with
    | some r => .nx ⟨r, s.g⟩
    | none => .bad
  | .setOwn i m, st => onE (ev T m st) fun d s => match putS true i d s.r with
    | some r => .nx ⟨r, s.g⟩
    | none => .bad
  | .par i j oi oj a b, st => onE (ev T a st) fun d s => onE (ev T b s) fun e s2 => match putS oi i d s2.r with
    | some r => match putS oj j e r with
      | some r => .nx ⟨r, s2.g⟩
      | none => .bad
    | none => .bad
  | .gset i k m, st => onE (ev T m st) fun d s => match s.r[i]? with
    | some (.glb j) => match s.g[j]? with
      | some kd => if kd.length < big then .nx ⟨s.r, s.g.set j (setK kd k d)⟩ else .bad
      | none => .bad
    | _ => .bad
  | .drop m, st => onE (ev T m st) fun _ s => .nx s
  | .ret m, st => onE (ev T m st) fun d s => .ret d s
  | .retN, st => .ret .non st
  | .ifS c a b, st => onE (ev T c st) fun d s => match truth d with
    | some true => runs T a s
    | some false => runs T b s
    | none => .bad
  | .forS p it src body, st => onE (evs T src st) fun ds s => match it.get ds with
    | some xs => loopS (bindP p) (runs T body) xs s
    | none => .bad
  | .matchS m cs, st => onE (ev T m st) fun d s => match d with
    | .str x => runm T x cs s
    | _ => .bad
  | .freeze i, st => match st.r[i]? with
    | some (.own xs) => .nx ⟨st.r.set i (.val (.lst xs)), st.g⟩
    | _ => .bad
  | .aug i p m, st => match st.r[i]? with
    | some (.val (.int x)) => onE (ev T m st) fun d s => match d, p with
      | .int y, .add => if i < s.r.length then .nx ⟨s.r.set i (.val (.int (x + y))), s.g⟩ else .bad
      | .int y, .sub => if i < s.r.length then .nx ⟨s.r.set i (.val (.int (x - y))), s.g⟩ else .bad
      | _, _ => .bad
    | _ => .bad
  | .retDic ks es, st => onE (evs T es st) fun ds s => if ks.length = ds.length ∧ ks.length ≤ 15 ∧ ks.Nodup then .retG (ks.zip ds) s else .bad
  | .gcall i k es, st => onE (evc T es st) fun xs s => match T k xs s.g with
    | .retG kd g => if i < s.r.length then .nx ⟨s.r.set i (.glb g.length), g ++ [kd]⟩ else .bad
    | .exc c fs g => .exc c fs ⟨s.r, g⟩
    | _ => .bad
  | .brk, st => .bk st
  | .cont, st => .ct st
  | .pass, st => .nx st
  | .caseK _ _, _ => .bad
  | .caseD _, _ => .bad
def runs (T : Tbl) : List S → Sx → SRes
  | [], st => .nx st
  | s :: ss, st => match run T s st with
    | .nx s1 => runs T ss s1
    | r => r
def runm (T : Tbl) (x : List Nat) : List S → Sx → SRes
  | [], st => .nx st
  | .caseK k b :: cs, st => if x = k then runs T b st else runm T x cs st
  | .caseD b :: _, st => runs T b st
  | _ :: _, _ => .bad
end

/-- the shared dicts may have grown in number -/
structure Grown (F F' : Fx) : Prop where
  h0 : F'.H0 = F.H0
  hid : F'.hid = F.hid
  more : ∃ m, F'.l = F.l ++ m ∧ ∀ a ∈ m, F.H0 a = none
theorem Grown.refl (F : Fx) : Grown F F := ⟨rfl, rfl, [], by simp, by simp⟩
theorem Grown.trans {F F1 F2 : Fx} (a : Grown F F1) (b : Grown F1 F2) : Grown F F2 := by
  obtain ⟨m1, e1, n1⟩ := a.more
  obtain ⟨m2, e2, n2⟩ := b.more
  refine ⟨b.h0.trans a.h0, b.hid.trans a.hid, m1 ++ m2, by rw [e2, e1, List.append_assoc], fun x hx => ?_⟩
  rcases List.mem_append.mp hx with h | h
  · exact n1 x h
  · rw [← a.h0]; exact n2 x h
def PostS (XR : Hp → Nat → List D → Value → Option Addr → Prop) (W : WX) (F : Fx) (H : Hp) (r : SRes) (D : Ends) : Prop := match r with
  | .nx st => ∀ F' σ' H', Grown F F' → Pers H H' → SI F' σ' st H' → D.nx σ' H'
  | .ret d st => ∀ F' v σ' H', Grown F F' → Pers H H' → SI F' σ' st H' → Rep H' d v → D.rt v H'
  | .retG kd st => ∀ F' σ' H' a, Grown F F' → Pers H H' → SI F' σ' st H' → F'.H0 a = none → a ∉ F'.l → GRep H' kd a → D.rt (.ref a) H'
  | .bk st => ∀ F' σ' H', Grown F F' → Pers H H' → SI F' σ' st H' → D.bk σ' H'
  | .ct st => ∀ F' σ' H', Grown F F' → Pers H H' → SI F' σ' st H' → D.ct σ' H'
  | .exc c fs st => ∀ F' cls dd σ' H', Grown F F' → Pers H H' → SI F' σ' st H' → XR H' c fs cls dd → W cls dd σ' H'
  | .bad => False
section
variable {T : Tbl} {XR : Hp → Nat → List D → Value → Option Addr → Prop} {W : WX} {F F1 : Fx} {σ : L2.St} {H H1 : Hp} {r : SRes} {Dd : Ends}
theorem PostS.weak (g : Grown F F1) (p : Pers H H1) (h : PostS XR W F H r Dd) : PostS XR W F1 H1 r Dd := by
  cases r with
  | nx st => exact fun F' σ' H' g' q I => h F' σ' H' (g.trans g') (p.trans q) I
  | ret d st => exact fun F' v σ' H' g' q I rr => h F' v σ' H' (g.trans g') (p.trans q) I rr
  | retG kd st => exact fun F' σ' H' a g' q I => h F' σ' H' a (g.trans g') (p.trans q) I
  | bk st => exact fun F' σ' H' g' q I => h F' σ' H' (g.trans g') (p.trans q) I
  | ct st => exact fun F' σ' H' g' q I => h F' σ' H' (g.trans g') (p.trans q) I
  | exc c fs st => exact fun F' cls dd σ' H' g' q I x => h F' cls dd σ' H' (g.trans g') (p.trans q) I x
  | bad => exact h
/-- an evaluation, then the rest -/
theorem PostS.onE {α : Type} {q : Res α} {f : α → Sx → SRes} {R : α → Hp → Prop} (h : PostS XR W F H (onE q f) Dd) (k : ∀ a st H', q = .ok a st → Pers H H' → SI F σ st H' → PostS XR W F H' (f a st) Dd → R a H') : Post XR W F σ H q R := by
  cases q with
  | ok a st => exact fun H' p I => k a st H' rfl p I (PostS.weak (Grown.refl F) p h)
  | exc c fs st => exact fun cls dd H' p I x => h F cls dd σ H' (Grown.refl F) p I x
  | bad => exact h
def denS (T : Tbl) (XR : Hp → Nat → List D → Value → Option Addr → Prop) (W : WX) (s : S) : TS := fun D σ H => ∃ F st, SI F σ st H ∧ PostS XR W F H (run T s st) D
def denSs (T : Tbl) (XR : Hp → Nat → List D → Value → Option Addr → Prop) (W : WX) (ss : List S) : TS := fun D σ H => ∃ F st, SI F σ st H ∧ PostS XR W F H (runs T ss st) D
theorem psOf {X : Cx} {e : Stmt} {t t' : TS} (h : PS X e t) (i : ∀ σ H D, t' D σ H → t D σ H) : PS X e t' := ⟨fun pins s σ H D I w => h.run pins s σ H D I (i σ H D w)⟩
theorem pssOf {X : Cx} {e : List Stmt} {t t' : TS} (h : PSs X e t) (i : ∀ σ H D, t' D σ H → t D σ H) : PSs X e t' := ⟨fun pins s σ H D I w => h.run pins s σ H D I (i σ H D w)⟩

/-! ### states that change -/
theorem SI.hide2 {st : Sx} {H H' : Hp} {p : Addr} {vs : List V} {ds : List D} (I : SI F σ st H) (sm : Same H H') (hp : H p = none) (h : H' p = some (.lst vs)) (r : RepL H' ds vs) : SI { F with hid := (p, ds) :: F.hid } σ st H' := by
  have J := I.same sm
  have nl : p ∉ F.l := fun hm => by
    obtain ⟨k, hk, e⟩ := List.getElem_of_mem hm
    have hk' : k < st.g.length := by rw [I.glen]; exact hk
    obtain ⟨kvs, q, _⟩ := I.glob k _ p (List.getElem?_eq_getElem hk') (by rw [List.getElem?_eq_getElem hk, e])
    rw [hp] at q; cases q
  have f0 : F.H0 p = none := by
    cases q : F.H0 p with
    | none => rfl
    | some o => have := I.keep p o q nl; rw [hp] at this; cases this
  refine ⟨J.slot, J.one, fun i x a h1 h2 => ?_, J.keep, J.glen, J.glob, J.gone, fun q hq => ?_, fun q hq => ?_⟩
  · obtain ⟨g1, g2, g3⟩ := I.fresh i x a h1 h2
    refine ⟨g1, g2, fun q hq => ?_⟩
    rcases List.mem_cons.mp hq with rfl | hq
    · obtain ⟨b, ws, e1, e2, _⟩ := I.own h1
      rw [h2] at e1
      cases e1
      intro z
      have z : p = a := z
      rw [z, e2] at hp; cases hp
    · exact g3 q hq
  · rcases List.mem_cons.mp hq with rfl | hq
    · exact ⟨vs, h, r⟩
    · exact J.hid q hq
  · rcases List.mem_cons.mp hq with rfl | hq
    · exact ⟨f0, nl⟩
    · exact I.hfr q hq
theorem hid_ne {st : Sx} {H : Hp} {p : Addr} (I : SI F σ st H) (hp : H p = none) : ∀ q ∈ F.hid, q.1 ≠ p := fun q hq e => by
  obtain ⟨vs, g, _⟩ := I.hid q hq
  rw [e, hp] at g; cases g
/-- a list that was being filled comes into a slot -/
theorem SI.adopt {st : Sx} {H : Hp} {p : Addr} {ds : List D} {i : Nat} (I : SI { F with hid := (p, ds) :: F.hid } σ st H) (nd : ∀ q ∈ F.hid, q.1 ≠ p) (hi : i < st.r.length) : SI F (σ.set i (some (.ref p))) ⟨st.r.set i (.own ds), st.g⟩ H := by
  have hσ : i < σ.length := by
    obtain ⟨y, h, _⟩ := I.slot i _ (List.getElem?_eq_getElem hi)
    exact (List.getElem?_eq_some_iff.mp h).1
  obtain ⟨f1, f2⟩ := I.hfr (p, ds) (by simp)
  obtain ⟨ws, w1, w2⟩ := I.hid (p, ds) (by simp)
  have ow : ∀ {j : Nat} {z : List D} {a : Addr}, (st.r.set i (.own ds))[j]? = some (.own z) → (σ.set i (some (.ref p)))[j]? = some (some (.ref a)) → (j = i ∧ a = p) ∨ (j ≠ i ∧ st.r[j]? = some (.own z) ∧ σ[j]? = some (some (.ref a))) := by
    intro j z a h1 h2
    by_cases e : i = j
    · subst e
      rw [List.getElem?_set_self hσ] at h2
      cases h2
      exact .inl ⟨rfl, rfl⟩
    · rw [List.getElem?_set_ne e] at h1 h2
      exact .inr ⟨Ne.symm e, h1, h2⟩
  refine ⟨fun j x hx => ?_, fun j k x y a h1 h2 h3 h4 => ?_, fun j x a h1 h2 => ?_, I.keep, I.glen, I.glob, I.gone, fun q hq => I.hid q (List.mem_cons_of_mem _ hq), fun q hq => I.hfr q (List.mem_cons_of_mem _ hq)⟩
  · by_cases e : i = j
    · subst e
      rw [List.getElem?_set_self hi] at hx
      cases hx
      exact ⟨_, List.getElem?_set_self hσ, p, ws, rfl, w1, w2⟩
    · rw [List.getElem?_set_ne e] at hx ⊢
      exact I.slot j x hx
  · rcases ow h1 h3 with ⟨e1, e2⟩ | ⟨n1, g1, g2⟩
    · rcases ow h2 h4 with ⟨e3, e4⟩ | ⟨n3, g3, g4⟩
      · rw [e1, e3]
      · exact absurd e2.symm ((I.fresh k y a g3 g4).2.2 (p, ds) (by simp))
    · rcases ow h2 h4 with ⟨e3, e4⟩ | ⟨n3, g3, g4⟩
      · exact absurd e4.symm ((I.fresh j x a g1 g2).2.2 (p, ds) (by simp))
      · exact I.one j k x y a g1 g3 g2 g4
  · rcases ow h1 h2 with ⟨e1, e2⟩ | ⟨n1, g1, g2⟩
    · rw [e2]
      exact ⟨f1, f2, nd⟩
    · obtain ⟨q1, q2, q3⟩ := I.fresh j x a g1 g2
      exact ⟨q1, q2, fun q hq => q3 q (List.mem_cons_of_mem _ hq)⟩
theorem putS_val {i : Nat} {d : D} {rr r' : List Slot} (e : putS false i d rr = some r') : i < rr.length ∧ r' = rr.set i (.val d) := by
  unfold putS at e
  split at e
  · rename_i h; cases e; exact ⟨h, rfl⟩
  · cases e
theorem putS_own {i : Nat} {d : D} {rr r' : List Slot} (e : putS true i d rr = some r') : ∃ xs, d = .lst xs ∧ i < rr.length ∧ r' = rr.set i (.own xs) := by
  unfold putS at e
  split at e
  · rename_i h
    cases d <;> simp only at e <;> cases e
    exact ⟨_, rfl, h, rfl⟩
  · cases e
theorem SI.put1 {st : Sx} {H : Hp} {i : Nat} {d : D} {v : V} {r' : List Slot} (I : SI F σ st H) (e : putS false i d st.r = some r') (rv : Rep H d v) : SI F (σ.set i (some v)) ⟨r', st.g⟩ H := by
  obtain ⟨hi, rfl⟩ := putS_val e
  exact I.put hi ⟨v, rfl, rv⟩ (fun z q => by cases q)
/-- a new list comes into a slot -/
theorem SI.put2 {st : Sx} {H H' : Hp} {i : Nat} {d : D} {v : V} {r' : List Slot} (I : SI F σ st H) (sm : Same H H') (e : putS true i d st.r = some r') (n : New H H' d v) : SI F (σ.set i (some v)) ⟨r', st.g⟩ H' := by
  obtain ⟨xs, rfl, hi, rfl⟩ := putS_own e
  obtain ⟨a, vs, rfl, h1, h2, h3⟩ := n
  exact (I.hide2 sm h1 h2 h3).adopt (hid_ne I h1) hi
end
end Rf

set_option Elab.async false
set_option linter.all false
set_option maxRecDepth 100000
set_option maxHeartbeats 4000000
namespace Rf
open PySem PySem.Spec PyProof.Rows L2

section
variable {X : Cx} {T : Tbl} {XR : Hp → Nat → List D → Value → Option Addr → Prop} {W : WX} {m : E} {e : Expr} {pos : Pos}
/-- no comprehension: its value is stored as any other -/
def noComp : Expr → Bool
  | .ListComp .. => false
  | .SetComp .. => false
  | .DictComp .. => false
  | _ => true
theorem sw_none {t : Option Expr} {l : Nat} {env : Env} (h : noComp e = true) : swapsWith e t l env = pure false := by
  cases e <;> first | rfl | (simp [noComp] at h)
theorem r_set {i : Nat} {x : Str} {p1 : Pos} (nd : X.N.Nodup) (hi : X.N[i]? = some x) (hx : Loc X.env.scope x) (fn : X.fn x = true) (he : PE X e (den T XR W m)) (hs : noComp e = true) : PS X (.Assign [.Name x p1] e pos) (denS T XR W (.set (.nm i) m)) := by
  refine psOf (ps_set nd hi hx he (sw_none hs) (.inl fn)) fun σ H Dd ⟨F, st, I, h⟩ => ?_
  simp only [run] at h
  refine ⟨F, st, I, PostS.onE h fun d s H1 _ p I1 q v rv => ?_⟩
  simp only [bindP] at q
  split at q
  · rename_i r er
    split at er
    · rename_i hl
      cases er
      exact q F _ H1 (Grown.refl F) (Pers.refl _) (I1.put hl ⟨v, rfl, rv⟩ (fun z q => by cases q))
    · cases er
  · exact q.elim
theorem r_setP {ps : List Pat} {es : List Expr} {k : Nat} {p1 : Pos} (he : PE X e (den T XR W m)) (hg : PG X (.Tuple es k p1) (patG X.K (.tp ps))) (hs : noComp e = true) (hw : swappedStores [.Tuple es k p1] e X.env = pure none) :
    PS X (.Assign [.Tuple es k p1] e pos) (denS T XR W (.set (.tp ps) m)) := by
  refine psOf (ps_asg he hg (sw_none (t := some (.Tuple es k p1)) (l := pos.line) (env := X.env) hs) hw rfl) fun σ H Dd ⟨F, st, I, h⟩ => ?_
  simp only [run] at h
  refine ⟨F, st, I, PostS.onE h fun d s H1 _ p I1 q v rv => ?_⟩
  split at q
  · rename_i r er
    exact bindP_run _ d s.r r v σ _ er I1 rv fun σ' J _ => q F σ' H1 (Grown.refl F) (Pers.refl _) J
  · exact q.elim
theorem setOwnGo {i : Nat} {σ : L2.St} {H : Hp} {Dd : Ends} (h : denS T XR W (.setOwn i m) Dd σ H) : denN T XR W m σ H fun v H1 => Dd.nx (σ.set i (some v)) H1 := by
  obtain ⟨F, st, I, h⟩ := h
  simp only [run] at h
  refine ⟨F, st, I, PostS.onE h fun d s H1 _ p I1 q v H' sm n => ?_⟩
  split at q
  · rename_i r er
    exact q F _ H' (Grown.refl F) (Pers.of_same sm) (I1.put2 sm er n)
  · exact q.elim
theorem r_setOwn {i : Nat} {x : Str} {p1 : Pos} (nd : X.N.Nodup) (hi : X.N[i]? = some x) (hx : Loc X.env.scope x) (fn : X.fn x = true) (he : PE X e (denN T XR W m)) (hs : swapsWith e (some (.Name x p1)) pos.line X.env = pure false) : PS X (.Assign [.Name x p1] e pos) (denS T XR W (.setOwn i m)) :=
  psOf (ps_set nd hi hx he hs (.inl fn)) fun σ H Dd h => setOwnGo h
theorem SI.forget {F : Fx} {σ : L2.St} {st : Sx} {H : Hp} {q : Addr × List D} (I : SI { F with hid := q :: F.hid } σ st H) : SI F σ st H :=
  ⟨I.slot, I.one, fun i x a h1 h2 => let ⟨g1, g2, g3⟩ := I.fresh i x a h1 h2; ⟨g1, g2, fun z hz => g3 z (List.mem_cons_of_mem _ hz)⟩, I.keep, I.glen, I.glob, I.gone, fun z hz => I.hid z (List.mem_cons_of_mem _ hz), fun z hz => I.hfr z (List.mem_cons_of_mem _ hz)⟩
/-- an evaluation while a list that was made is out of sight -/
theorem PostS.onE2 {F : Fx} {σ : L2.St} {H : Hp} {Dd : Ends} {hq : Addr × List D} {α : Type} {q : Res α} {f : α → Sx → SRes} {R : α → Hp → Prop} (h : PostS XR W F H (Rf.onE q f) Dd)
    (k : ∀ a st H', q = .ok a st → Pers H H' → SI { F with hid := hq :: F.hid } σ st H' → PostS XR W F H' (f a st) Dd → R a H') : Post XR W { F with hid := hq :: F.hid } σ H q R := by
  cases q with
  | ok a st => exact fun H' p I => k a st H' rfl p I (PostS.weak (Grown.refl F) p h)
  | exc c fs st => exact fun cls dd H' p I x => h F cls dd σ H' (Grown.refl F) p I.forget x
  | bad => exact h
theorem put_end {F : Fx} {j : Nat} {oj : Bool} {e : D} {σ : L2.St} {st : Sx} {r : List Slot} {H H' : Hp} {w : V} {Dd : Ends} (I : SI F σ ⟨r, st.g⟩ H) (sm : Same H H') (hn : if oj then New H H' e w else Rep H' e w)
    (q : PostS XR W F H (match putS oj j e r with | some r => .nx ⟨r, st.g⟩ | none => .bad) Dd) : Dd.nx (σ.set j (some w)) H' := by
  split at q
  · rename_i r' er
    cases oj with
    | false => exact q F _ H' (Grown.refl F) (Pers.of_same sm) ((I.same sm).put1 er hn)
    | true => exact q F _ H' (Grown.refl F) (Pers.of_same sm) (I.put2 sm er hn)
  · exact q.elim
theorem parGo {F : Fx} {i j : Nat} {oi oj : Bool} {a b : E} {σ : L2.St} {st : Sx} {H : Hp} {Dd : Ends} (I : SI F σ st H) (h : PostS XR W F H (run T (.par i j oi oj a b) st) Dd) :
    (if oi then denN T XR W a else den T XR W a) σ H fun v H1 => (if oj then denN T XR W b else den T XR W b) σ H1 fun w H2 => Dd.nx ((σ.set i (some v)).set j (some w)) H2 := by
  simp only [run] at h
  cases oi with
  | false =>
    rw [if_neg (by decide)]
    refine ⟨F, st, I, PostS.onE h fun d s H1 _ p I1 q v rv => ?_⟩
    have fin : ∀ {e : D} {s2 : Sx} {H2 H3 : Hp} {w : V}, Pers H1 H2 → SI F σ s2 H2 → Same H2 H3 → (if oj then New H2 H3 e w else Rep H3 e w) →
        PostS XR W F H2 (match putS false i d s2.r with | some r => (match putS oj j e r with | some r => .nx ⟨r, s2.g⟩ | none => .bad) | none => .bad) Dd → Dd.nx ((σ.set i (some v)).set j (some w)) H3 := by
      intro e s2 H2 H3 w p2 I2 sm hn q2
      split at q2
      · rename_i r er
        exact put_end (st := ⟨r, s2.g⟩) (I2.put1 er (Rep.pers p2 _ _ rv)) sm hn q2
      · exact q2.elim
    cases oj with
    | false =>
      rw [if_neg (by decide)]
      exact ⟨F, s, I1, PostS.onE q fun e s2 H2 _ p2 I2 q2 w rw' => fin p2 I2 (Same.refl _) rw' q2⟩
    | true =>
      rw [if_pos rfl]
      exact ⟨F, s, I1, PostS.onE q fun e s2 H2 _ p2 I2 q2 w H3 sm n => fin p2 I2 sm n q2⟩
  | true =>
    rw [if_pos rfl]
    refine ⟨F, st, I, PostS.onE h fun d s H1 _ p I1 q v H1' sm0 n0 => ?_⟩
    cases d with
    | lst xs =>
      obtain ⟨pa, vs, rfl, g1, g2, g3⟩ := n0
      have J1 := I1.hide2 sm0 g1 g2 g3
      have nd := hid_ne I1 g1
      have q := PostS.weak (Grown.refl F) (Pers.of_same sm0) q
      have fin : ∀ {e : D} {s2 : Sx} {H2 H3 : Hp} {w : V}, SI { F with hid := (pa, xs) :: F.hid } σ s2 H2 → Same H2 H3 → (if oj then New H2 H3 e w else Rep H3 e w) →
          PostS XR W F H2 (match putS true i (.lst xs) s2.r with | some r => (match putS oj j e r with | some r => .nx ⟨r, s2.g⟩ | none => .bad) | none => .bad) Dd → Dd.nx ((σ.set i (some (.ref pa))).set j (some w)) H3 := by
        intro e s2 H2 H3 w I2 sm hn q2
        split at q2
        · rename_i r er
          obtain ⟨ys, ey, hi, rfl⟩ := putS_own er
          cases ey
          exact put_end (st := ⟨s2.r.set i (.own xs), s2.g⟩) (I2.adopt nd hi) sm hn q2
        · exact q2.elim
      cases oj with
      | false =>
        rw [if_neg (by decide)]
        exact ⟨_, s, J1, PostS.onE2 q fun e s2 H2 _ p2 I2 q2 w rw' => fin I2 (Same.refl _) rw' q2⟩
      | true =>
        rw [if_pos rfl]
        exact ⟨_, s, J1, PostS.onE2 q fun e s2 H2 _ p2 I2 q2 w H3 sm n => fin I2 sm n q2⟩
    | _ =>
      all_goals
        have J1 := I1.same sm0
        have q := PostS.weak (Grown.refl F) (Pers.of_same sm0) q
        cases oj with
        | false =>
          rw [if_neg (by decide)]
          refine ⟨F, s, J1, PostS.onE q fun e s2 H2 _ p2 I2 q2 w rw' => ?_⟩
          split at q2
          · rename_i r er
            obtain ⟨ys, ey, _⟩ := putS_own er
            cases ey
          · exact q2.elim
        | true =>
          rw [if_pos rfl]
          refine ⟨F, s, J1, PostS.onE q fun e s2 H2 _ p2 I2 q2 w H3 sm n => ?_⟩
          split at q2
          · rename_i r er
            obtain ⟨ys, ey, _⟩ := putS_own er
            cases ey
          · exact q2.elim
/-- a shared dict turned -/
theorem SI.gput {F : Fx} {σ : L2.St} {st : Sx} {H : Hp} {j : Nat} {kd : Gd} {a : Addr} {kvs : List (Key × V)} {k : Key} {d : D} {v : V} (I : SI F σ st H) (e : st.g[j]? = some kd) (ea : F.l[j]? = some a)
    (h : H a = some (.dK kvs)) (h1 : kvs.map (·.1) = kd.map (·.1)) (h2 : RepL H (kd.map (·.2)) (kvs.map (·.2))) (rv : Rep H d v) : SI F σ ⟨st.r, st.g.set j (setK kd k d)⟩ (upd H a (.dK (putK kvs k v))) := by
  have pe : Pers H (upd H a (.dK (putK kvs k v))) := pers_upd h trivial
  have mem : a ∈ F.l := List.mem_of_getElem? ea
  refine ⟨fun i x hx => ?_, I.one, I.fresh, fun b o g1 g2 => ?_, by rw [List.length_set]; exact I.glen, fun k' kd' b g1 g2 => ?_, I.gone, fun q hq => ?_, I.hfr⟩
  · obtain ⟨y, g1, g2⟩ := I.slot i x hx
    refine ⟨y, g1, ?_⟩
    cases x with
    | none => trivial
    | val d => obtain ⟨w, e1, e2⟩ := g2; exact ⟨w, e1, Rep.pers pe _ _ e2⟩
    | own zs =>
      obtain ⟨b, ws, e1, e2, e3⟩ := g2
      refine ⟨b, ws, e1, ?_, RepL.pers pe _ _ e3⟩
      rw [upd_ne (fun z => (I.fresh i zs b hx (by rw [g1, e1])).2.1 (by rw [z]; exact mem))]
      exact e2
    | glb k => exact g2
  · rw [upd_ne (fun z => g2 (by rw [z]; exact mem))]
    exact I.keep b o g1 g2
  · by_cases z : j = k'
    · subst z
      rw [ea] at g2
      cases g2
      rw [List.getElem?_set_self (List.getElem?_eq_some_iff.mp e).1] at g1
      cases g1
      obtain ⟨z1, z2⟩ := setK_rep (k := k) rv h1 h2
      exact ⟨_, upd_same, z1, RepL.pers pe _ _ z2⟩
    · rw [List.getElem?_set_ne z] at g1
      obtain ⟨us, y1, y2, y3⟩ := I.glob k' kd' b g1 g2
      refine ⟨us, ?_, y2, RepL.pers pe _ _ y3⟩
      rw [upd_ne (fun w => z (I.gone j k' a ea (by rw [g2, w])))]
      exact y1
  · obtain ⟨ws, z1, z2⟩ := I.hid q hq
    refine ⟨ws, ?_, RepL.pers pe _ _ z2⟩
    rw [upd_ne (fun w => (I.hfr q hq).2 (by rw [w]; exact mem))]
    exact z1
theorem r_gset {i : Nat} {k : Key} {x : Str} {p1 p2 : Pos} {ek : Expr} (hN : X.N[i]? = some x) (hv : Vis X.env.scope x) (hd : (x == ("__debug__" : Str)) = false) (hcd : (x == ("__classdict__" : Str)) = false) (hu : X.A.units + 1 < cLine)
    (hk : PE X ek (tC (kV k))) (he : PE X e (den T XR W m)) (hs : noComp e = true) : PS X (.Assign [.Subscript (.Name x p1) ek p2] e pos) (denS T XR W (.gset i k m)) := by
  refine psOf (ps_dput hu (pe_var hN hv hd hcd) hk he (sw_none hs)) fun σ H Dd ⟨F, st, I, h⟩ => ?_
  simp only [run] at h
  refine ⟨F, st, I, PostS.onE h fun d s H1 _ p I1 q v rv => ?_⟩
  cases ex : s.r[i]? with
  | none => rw [ex] at q; exact q.elim
  | some y =>
    cases y with
    | glb j =>
      rw [ex] at q
      simp only at q
      split at q
      · rename_i kd ekd
        split at q
        · rename_i hl
          obtain ⟨y, g1, b, rfl, g3⟩ := I1.slot i _ ex
          obtain ⟨kvs, z1, z2, z3⟩ := I1.glob j kd b ekd g3
          refine ⟨.ref b, g1, b, _, rfl, DPut.k z1 ?_, q F σ _ (Grown.refl F) (pers_upd z1 trivial) (I1.gput ekd g3 z1 z2 z3 rv)⟩
          have := congrArg List.length z2
          rw [List.length_map, List.length_map] at this
          rw [sz_big, this]
          exact hl
        · exact q.elim
      · exact q.elim
    | _ => rw [ex] at q; exact q.elim
theorem r_drop (he : PE X e (den T XR W m)) (hs : noComp e = true) : PS X (.Expr e pos) (denS T XR W (.drop m)) := by
  refine psOf (ps_expr he (sw_none hs)) fun σ H Dd ⟨F, st, I, h⟩ => ?_
  simp only [run] at h
  exact ⟨F, st, I, PostS.onE h fun d s H1 _ p I1 q v rv => q F σ H1 (Grown.refl F) (Pers.refl _) I1⟩
theorem r_ret (he : PE X e (den T XR W m)) : PS X (.Return (some e) pos) (denS T XR W (.ret m)) := by
  refine psOf (ps_ret he) fun σ H Dd ⟨F, st, I, h⟩ => ?_
  simp only [run] at h
  exact ⟨F, st, I, PostS.onE h fun d s H1 _ p I1 q v rv => q F v σ H1 (Grown.refl F) (Pers.refl _) I1 rv⟩
theorem r_retN : PS X (.Return none pos) (denS T XR W .retN) :=
  psOf ps_retN fun σ H Dd ⟨F, st, I, h⟩ => h F .non σ H (Grown.refl F) (Pers.refl _) I rfl
theorem r_pass : PS X (.Pass pos) (denS T XR W .pass) := psOf ps_pass fun σ H Dd ⟨F, st, I, h⟩ => h F σ H (Grown.refl F) (Pers.refl _) I
theorem r_brk : PS X (.Break pos) (denS T XR W .brk) := psOf ps_break fun σ H Dd ⟨F, st, I, h⟩ => h F σ H (Grown.refl F) (Pers.refl _) I
theorem r_cont : PS X (.Continue pos) (denS T XR W .cont) := psOf ps_continue fun σ H Dd ⟨F, st, I, h⟩ => h F σ H (Grown.refl F) (Pers.refl _) I
theorem r_if {c : E} {a b : List S} {ec : Expr} {ba bb : List Stmt} (hc : PT X ec (denT T XR W c)) (ha : PSs X ba (denSs T XR W a)) (hb : PSs X bb (denSs T XR W b)) : PS X (.If ec ba bb pos) (denS T XR W (.ifS c a b)) := by
  refine psOf (ps_if hc ha hb) fun σ H Dd ⟨F, st, I, h⟩ => ?_
  simp only [run] at h
  refine ⟨F, st, I, PostS.onE h fun d s H1 _ p I1 q => ?_⟩
  split at q
  · rename_i ed; exact ⟨true, ed, by dsimp only; rw [if_pos rfl]; exact ⟨F, s, I1, q⟩⟩
  · rename_i ed; exact ⟨false, ed, by dsimp only; rw [if_neg (by decide)]; exact ⟨F, s, I1, q⟩⟩
  · exact q.elim
theorem rs_nil : PSs X [] (denSs T XR W []) := pssOf pss_nil fun σ H Dd ⟨F, st, I, h⟩ => h F σ H (Grown.refl F) (Pers.refl _) I
theorem rs_cons {s : S} {ss : List S} {st : Stmt} {sts : List Stmt} (h1 : PS X st (denS T XR W s)) (h2 : PSs X sts (denSs T XR W ss)) : PSs X (st :: sts) (denSs T XR W (s :: ss)) := by
  refine pssOf (pss_cons h1 h2) fun σ H Dd ⟨F, sx, I, h⟩ => ⟨F, sx, I, ?_⟩
  simp only [runs] at h
  cases q : run T s sx with
  | nx s1 =>
    rw [q] at h
    exact fun F' σ' H' g p I' => ⟨F', s1, I', PostS.weak g p h⟩
  | ret d s1 => rw [q] at h; exact h
  | retG kd s1 => rw [q] at h; exact h
  | bk s1 => rw [q] at h; exact h
  | ct s1 => rw [q] at h; exact h
  | exc c fs s1 => rw [q] at h; exact h
  | bad => rw [q] at h; exact h
/-- a list at rest from here on -/
theorem rs_freeze {i : Nat} {ss : List S} {sts : List Stmt} (h2 : PSs X sts (denSs T XR W ss)) : PSs X sts (denSs T XR W (.freeze i :: ss)) := by
  refine ⟨fun pins s σ H Dd I0 ⟨F, sx, I, h⟩ => ?_⟩
  simp only [runs, run] at h
  cases ex : sx.r[i]? with
  | none => rw [ex] at h; exact h.elim
  | some y =>
    cases y with
    | own xs =>
      rw [ex] at h
      simp only at h
      obtain ⟨a, vs, q1, q2, q3⟩ := I.own ex
      obtain ⟨od, I1⟩ := I0.lock q2 trivial
      have pe : Pers H (upd H a (.frz od (.lst vs))) := pers_upd q2 trivial
      refine h2.run pins s σ _ Dd I1 ⟨F, _, ?_, PostS.weak (Grown.refl F) pe h⟩
      obtain ⟨f1, f2, f3⟩ := I.fresh i xs a ex q1
      have hi : i < sx.r.length := (List.getElem?_eq_some_iff.mp ex).1
      have ow : ∀ {j : Nat} {z : List D}, (sx.r.set i (.val (.lst xs)))[j]? = some (.own z) → i ≠ j ∧ sx.r[j]? = some (.own z) := by
        intro j z hz
        by_cases e : i = j
        · subst e; rw [List.getElem?_set_self hi] at hz; cases hz
        · rw [List.getElem?_set_ne e] at hz; exact ⟨e, hz⟩
      refine ⟨fun j x hx => ?_, fun j k x y b g1 g2 g3 g4 => ?_, fun j x b g1 g2 => ?_, fun b o g1 g2 => ?_, I.glen, fun k kd b g1 g2 => ?_, I.gone, fun q hq => ?_, I.hfr⟩
      · by_cases e : i = j
        · subst e
          rw [List.getElem?_set_self hi] at hx
          cases hx
          exact ⟨_, q1, .ref a, rfl, by simp only [Rep]; exact ⟨a, od, vs, rfl, upd_same, RepL.pers pe _ _ q3⟩⟩
        · rw [List.getElem?_set_ne e] at hx
          obtain ⟨y, g1, g2⟩ := I.slot j x hx
          refine ⟨y, g1, ?_⟩
          cases x with
          | none => trivial
          | val d => obtain ⟨v, e1, e2⟩ := g2; exact ⟨v, e1, Rep.pers pe _ _ e2⟩
          | own zs =>
            obtain ⟨b, ws, e1, e2, e3⟩ := g2
            refine ⟨b, ws, e1, ?_, RepL.pers pe _ _ e3⟩
            rw [upd_ne (fun z => e (by subst z; exact I.one i j xs zs b ex hx q1 (by rw [g1, e1])))]
            exact e2
          | glb k => exact g2
      · obtain ⟨n1, g1⟩ := ow g1
        obtain ⟨n2, g2⟩ := ow g2
        exact I.one j k x y b g1 g2 g3 g4
      · obtain ⟨n1, g1⟩ := ow g1
        exact I.fresh j x b g1 g2
      · rw [upd_ne (fun z => by rw [z, f1] at g1; cases g1)]
        exact I.keep b o g1 g2
      · obtain ⟨kvs, z1, z2, z3⟩ := I.glob k kd b g1 g2
        refine ⟨kvs, ?_, z2, RepL.pers pe _ _ z3⟩
        rw [upd_ne (fun z => f2 (by rw [← z]; exact List.mem_of_getElem? g2))]
        exact z1
      · obtain ⟨us, z1, z2⟩ := I.hid q hq
        exact ⟨us, by rw [upd_ne (f3 q hq)]; exact z1, RepL.pers pe _ _ z2⟩
    | _ => rw [ex] at h; exact h.elim
end
end Rf

set_option Elab.async false
set_option linter.all false
set_option maxRecDepth 100000
set_option maxHeartbeats 4000000
namespace Rf
open PySem PySem.Spec PyProof.Rows L2

section
variable {X : Cx} {T : Tbl} {XR : Hp → Nat → List D → Value → Option Addr → Prop} {W : WX} {m : E} {e : Expr} {pos : Pos}
theorem r_for {p : Pat} {k : ItK} {src : List E} {b : List S} {tg iter : Expr} {body : List Stmt} (hp : PassesOwn (model X.prog X.w) X.A X.env X.xe) (hc : X.calm = true) (hi : PI X tg iter (iD T XR W k src)) (hg : PG X tg (patG X.K p)) (hb : PSs X body (denSs T XR W b))
    (hs : ∀ x, foldedSetIterable iter X.env x = pure x) : PS X (.For tg iter body [] pos) (denS T XR W (.forS p k src b)) := by
  refine psOf (ps_for hp hc hi hg hb hs) fun σ H Dd ⟨F, st, I, h⟩ => ?_
  simp only [run] at h
  refine ⟨F, st, I, PostS.onE h fun ds s H1 _ p1 I1 q => ?_⟩
  cases ei : k.get ds with
  | none => rw [ei] at q; exact q.elim
  | some its =>
    rw [ei] at q
    simp only at q
    refine ⟨its, rfl, fun J H2 sm wk => ?_⟩
    let Wv : Nat → Nat → L2.St → Hp → Prop := fun i mm σ' H' => mm = its.length - i ∧ i ≤ its.length ∧ Pers H2 H' ∧ ∃ F' st', Grown F F' ∧ SI F' σ' st' H' ∧ PostS XR W F' H' (loopS (bindP p) (runs T b) (its.drop i) st') Dd
    refine ⟨Wv, ⟨its.length, by simp, Nat.zero_le _, Pers.refl _, F, s, Grown.refl F, I1.same sm, by rw [List.drop_zero]; exact PostS.weak (Grown.refl F) (Pers.of_same sm) q⟩, ?_⟩
    rintro i mm σ' H' ⟨rfl, hi, pc, F', st', g', I', q'⟩
    by_cases hlt : i < its.length
    · have hx : its[i]? = some its[i] := List.getElem?_eq_getElem hlt
      obtain ⟨go, yld⟩ := wk.go i H' _ pc hx
      refine .inr ⟨go, fun σ2 H2' => ∃ m', m' < its.length - i ∧ Wv (i + 1) m' σ2 H2', fun σ2 H2' z => z, fun x H3 hy => ?_⟩
      obtain ⟨sm2, rx⟩ := yld x H3 hy
      rw [List.drop_eq_getElem_cons hlt] at q'
      simp only [loopS] at q'
      cases eb : bindP p its[i] st'.r with
      | none => rw [eb] at q'; exact q'.elim
      | some r1 =>
        rw [eb] at q'
        simp only at q'
        refine bindP_run p _ _ r1 x _ _ eb (I'.same sm2) rx fun σ2 J2 _ => ⟨F', ⟨r1, st'.g⟩, J2, ?_⟩
        have q' := PostS.weak (Grown.refl F') (Pers.of_same sm2) q'
        have again : ∀ {s2 : Sx}, PostS XR W F' H3 (loopS (bindP p) (runs T b) (its.drop (i + 1)) s2) Dd → ∀ F'' σ3 H4, Grown F' F'' → Pers H3 H4 → SI F'' σ3 s2 H4 → ∃ m', m' < its.length - i ∧ Wv (i + 1) m' σ3 H4 := by
          intro s2 q2 F'' σ3 H4 g4 p4 I4
          exact ⟨its.length - (i + 1), by omega, rfl, hlt, pc.trans ((Pers.of_same sm2).trans p4), F'', s2, g'.trans g4, I4, PostS.weak g4 p4 q2⟩
        cases er : runs T b ⟨r1, st'.g⟩ with
        | nx s2 => rw [er] at q'; exact again q'
        | ct s2 => rw [er] at q'; exact again q'
        | bk s2 => rw [er] at q'; exact q'
        | ret d s2 => rw [er] at q'; exact q'
        | retG kd s2 => rw [er] at q'; exact q'
        | exc c fs s2 => rw [er] at q'; exact q'
        | bad => rw [er] at q'; exact q'
    · have e : i = its.length := by omega
      subst e
      rw [List.drop_length] at q'
      exact .inl ⟨wk.stop H' pc, q' F' σ' H' (Grown.refl F') (Pers.refl _) I'⟩
/-! ### match -/
def denM (T : Tbl) (XR : Hp → Nat → List D → Value → Option Addr → Prop) (W : WX) (x : List Nat) (cs : List S) : TS := fun D σ H => ∃ F st, SI F σ st H ∧ PostS XR W F H (runm T x cs st) D
structure MC (X : Cx) (cases : List MatchCase) (t : List Nat → TS) : Prop where
  run : ∀ (pins : List (Addr × Obj)) (s : Shared) (σ : L2.St) (H : Hp) (D : Ends) (x : List Nat) (u : Value) (first : Bool), Inv X pins σ H s → RelV (.str ⟨x.toArray⟩) u → x.length ≤ sizeLine → t x D σ H → wpAny (model X.prog X.w) X.A (matchCases cases X.env u first) (SP X pins D) X.xe s
theorem mc_nil : MC X [] (fun x => denM T XR W x []) := ⟨fun pins s σ H D x u first I _ _ ⟨F, st, J, h⟩ => wpAny_matchCases_nil ⟨σ, H, I, h F σ H (Grown.refl F) (Pers.refl _) J⟩⟩
theorem mc_def {b : List S} {cs : List S} {body : List Stmt} {rest : List MatchCase} {pp : Pos} (hb : PSs X body (denSs T XR W b)) : MC X (⟨.MatchAs none none pp, none, body⟩ :: rest) (fun x => denM T XR W x (.caseD b :: cs)) := by
  refine ⟨fun pins s σ H D x u first I _ _ ⟨F, st, J, h⟩ => wpAny_matchCases_cons (wpAny_matchPattern_Capture ?_)⟩
  exact wpAny_assignInOrder_none (hb.run pins s σ H D I ⟨F, st, J, h⟩)
theorem mc_key {k : List Nat} {b : List S} {cs : List S} {body : List Stmt} {rest : List MatchCase} {p1 p2 : Pos} {kd : Nat} (hu : X.A.units + 64 < cLine) (hk : k.length ≤ big) (hb : PSs X body (denSs T XR W b)) (hr : MC X rest (fun x => denM T XR W x cs)) :
    MC X (⟨.MatchValue (.Constant (.str ⟨k.toArray⟩) kd p1) p2, none, body⟩ :: rest) (fun x => denM T XR W x (.caseK k b :: cs)) := by
  refine ⟨fun pins s σ H D x u first I ru hz ⟨F, st, J, h⟩ => wpAny_matchCases_cons (wpAny_matchPattern_Value ?_)⟩
  refine thn ((pe_str (X := X) (x := ⟨k.toArray⟩) (j := kd) (pos := p1)).run pins s σ H (fun v H1 => v = .str ⟨k.toArray⟩ ∧ H1 = H) I ⟨rfl, rfl⟩) fun w s1 ⟨v, H1, I1, rv, ev1, eh⟩ => ?_
  subst ev1 eh
  refine thn (o_eq hu pins s1 σ H1 (.str ⟨x.toArray⟩) (.str ⟨k.toArray⟩) u w (fun v H2 => v = .bl (decide (x = k)) ∧ Same H1 H2) I1 ru rv ⟨.str x, .str k, ⟨rfl, hz⟩, ⟨rfl, by rw [sz_big]; exact hk⟩, .bl (decide (x = k)), rfl, fun v H2 sm nv => ⟨nv, sm⟩⟩) fun c s2 ⟨v, H2, I2, rc, e1, e2⟩ => ?_
  have J := J.same e2
  have h := PostS.weak (Grown.refl F) (Pers.of_same e2) h
  · subst e1
    obtain rfl : c = _ := rc
    refine wpAny_truthy_bool ?_
    simp only [runm] at h
    by_cases z : x = k
    · rw [if_pos z] at h
      rw [if_pos (by simp [z])]
      exact wpAny_assignInOrder_none (hb.run pins s2 σ H2 D I2 ⟨F, st, J, h⟩)
    · rw [if_neg z] at h
      rw [if_neg (by simp [z])]
      exact hr.run pins s2 σ H2 D x u false I2 ru hz ⟨F, st, J, h⟩
theorem r_match {cs : List S} {cases : List MatchCase} (he : PE X e (den T XR W m)) (hc : MC X cases (fun x => denM T XR W x cs)) : PS X (.Match e cases pos) (denS T XR W (.matchS m cs)) := by
  refine ⟨fun pins s σ H Dd I0 ⟨F, st, I, h⟩ => wpAny_Match ?_⟩
  simp only [run] at h
  refine thn (he.run pins s σ H (fun v H1 => ∃ x, v = .str ⟨x.toArray⟩ ∧ x.length ≤ sizeLine ∧ denM T XR W x cs Dd σ H1) I0 ⟨F, st, I, PostS.onE h fun d s1 H1 _ p I1 q v rv => ?_⟩) fun u s1 ⟨v, H1, I1, ru, x, ev1, hz, hq⟩ => ?_
  · cases d <;> try exact q.elim
    simp only [Rep] at rv
    exact ⟨_, rv.1, rv.2, F, s1, I1, q⟩
  · subst ev1
    exact hc.run pins s1 σ H1 Dd x u true I1 ru hz hq
theorem r_aug_add {i : Nat} {x : Str} {p1 : Pos} (nd : X.N.Nodup) (hi : X.N[i]? = some x) (hx : Loc X.env.scope x) (fn : X.fn x = true) (he : PE X e (den T XR W m)) : PS X (.AugAssign (.Name x p1) .Add e pos) (denS T XR W (.aug i .add m)) := by
  refine psOf (ps_aug nd hi hx he ip_add (.inl fn)) fun σ H Dd ⟨F, st, I, h⟩ => ?_
  simp only [run] at h
  split at h
  · rename_i a ea
    obtain ⟨v, g1, g2⟩ := I.var ea
    obtain rfl : v = _ := g2
    refine ⟨_, g1, F, st, I, PostS.onE h fun d s1 H1 _ p I1 q w rw' => ?_⟩
    cases d <;> simp only at q <;> try (exact q.elim)
    split at q
    · rename_i hl
      obtain rfl : w = _ := rw'
      refine ⟨_, _, rfl, rfl, q F _ H1 (Grown.refl F) (Pers.refl _) (I1.put hl ⟨_, rfl, rfl⟩ (fun z q => by cases q))⟩
    · exact q.elim
  · exact h.elim
theorem r_aug_sub {i : Nat} {x : Str} {p1 : Pos} (nd : X.N.Nodup) (hi : X.N[i]? = some x) (hx : Loc X.env.scope x) (fn : X.fn x = true) (he : PE X e (den T XR W m)) : PS X (.AugAssign (.Name x p1) .Sub e pos) (denS T XR W (.aug i .sub m)) := by
  refine psOf (ps_aug nd hi hx he ip_sub (.inl fn)) fun σ H Dd ⟨F, st, I, h⟩ => ?_
  simp only [run] at h
  split at h
  · rename_i a ea
    obtain ⟨v, g1, g2⟩ := I.var ea
    obtain rfl : v = _ := g2
    refine ⟨_, g1, F, st, I, PostS.onE h fun d s1 H1 _ p I1 q w rw' => ?_⟩
    cases d <;> simp only at q <;> try (exact q.elim)
    split at q
    · rename_i hl
      obtain rfl : w = _ := rw'
      refine ⟨_, _, rfl, rfl, q F _ H1 (Grown.refl F) (Pers.refl _) (I1.put hl ⟨_, rfl, rfl⟩ (fun z q => by cases q))⟩
    · exact q.elim
  · exact h.elim
/-! ### a, b = x, y -/
/-- which stores go the other way round, by the scope alone -/
def swapP (ts vs : List Expr) (bk : ScopeKind) (kind : Str → Option NameKind) : Option (Option (List Str)) :=
  if !(ts.length == 2 || ts.length == 3) || vs.length != ts.length || bk != .function then some none
  else if vs.any (fun | .Starred .. => true | _ => false) then some none
  else
    let line := (ts.head?.map (·.pos.line)).getD 0
    let names := ts.filterMap fun
      | .Name id pos => if kind id == some .local && pos.line == line then some id else none
      | _ => none
    if names.length != ts.length || names.eraseDups.length != names.length then some none
    else if vs.all (foldedForSure 8) then some none
    else if vs.all (constantsAlone 8) then none
    else some (some names)
theorem sw_of {ts vs : List Expr} {k k2 : Nat} {p1 p2 : Pos} {env : Env} {r : Option (List Str)} (h : swapP ts vs env.blockKind env.kindOf = some r) : swappedStores [.Tuple ts k p1] (.Tuple vs k2 p2) env = pure r := by
  unfold swapP at h
  unfold swappedStores
  simp only
  split at h
  · rename_i z; cases h; rw [if_pos z]
  · rename_i z
    rw [if_neg z]
    split at h
    · rename_i z; cases h; exact if_pos z
    · rename_i z
      refine (if_neg z).trans ?_
      simp only at h
      split at h
      · rename_i z; cases h; exact if_pos z
      · rename_i z
        refine (if_neg z).trans ?_
        split at h
        · rename_i z; cases h; exact if_pos z
        · rename_i z
          refine (if_neg z).trans ?_
          split at h
          · cases h
          · rename_i z; cases h; exact if_neg z
end
end Rf

set_option Elab.async false
set_option linter.all false
set_option maxRecDepth 100000
set_option maxHeartbeats 4000000
namespace Rf
open PySem PySem.Spec PyProof.Rows L2

/-- an object that is being made, out of sight -/
def Fx.pin (F : Fx) (p : Addr) (o : HO) : Fx := { F with H0 := fun a => if a = p then some o else F.H0 a }
section
variable {X : Cx} {T : Tbl} {XR : Hp → Nat → List D → Value → Option Addr → Prop} {W : WX} {m : E} {e : Expr} {pos : Pos} {F : Fx} {σ : L2.St} {st : Sx} {H H' : Hp} {p : Addr} {o o' : HO}
theorem SI.free (I : SI F σ st H) (h : H p = none) : F.H0 p = none ∧ p ∉ F.l ∧ (∀ q ∈ F.hid, q.1 ≠ p) := by
  have nl : p ∉ F.l := fun hm => by
    obtain ⟨k, hk, e⟩ := List.getElem_of_mem hm
    have hk' : k < st.g.length := by rw [I.glen]; exact hk
    obtain ⟨kvs, q, _⟩ := I.glob k _ p (List.getElem?_eq_getElem hk') (by rw [List.getElem?_eq_getElem hk, e])
    rw [h] at q; cases q
  refine ⟨?_, nl, fun q hq e => ?_⟩
  · cases q : F.H0 p with
    | none => rfl
    | some u => have := I.keep p u q nl; rw [h] at this; cases this
  · obtain ⟨vs, g, _⟩ := I.hid q hq
    rw [e, h] at g; cases g
theorem SI.pin (I : SI F σ st H) (h : H p = none) : SI (F.pin p o) σ st (upd H p o) := by
  obtain ⟨f0, nl, nh⟩ := I.free h
  have J := I.same (same_upd (o := o) h)
  have ne : ∀ (i : Nat) (x : List D) (a : Addr), st.r[i]? = some (.own x) → σ[i]? = some (some (.ref a)) → a ≠ p := fun i x a h1 h2 e => by
    obtain ⟨b, ws, e1, e2, _⟩ := I.own h1
    rw [h2] at e1
    cases e1
    rw [e, h] at e2; cases e2
  refine ⟨J.slot, J.one, fun i x a h1 h2 => ?_, fun a u h1 h2 => ?_, J.glen, J.glob, J.gone, J.hid, fun q hq => ⟨?_, (I.hfr q hq).2⟩⟩
  · obtain ⟨g1, g2, g3⟩ := I.fresh i x a h1 h2
    exact ⟨(if_neg (ne i x a h1 h2)).trans g1, g2, g3⟩
  · by_cases z : a = p
    · subst z
      have h1 : (if a = a then some o else F.H0 a) = some u := h1
      rw [if_pos rfl] at h1
      cases h1
      exact upd_same
    · have h1 : (if a = p then some o else F.H0 a) = some u := h1
      rw [if_neg z] at h1
      exact J.keep a u h1 h2
  · exact (if_neg (nh q hq)).trans (I.hfr q hq).1
theorem SI.unpin (I : SI (F.pin p o) σ st H) (f0 : F.H0 p = none) : SI F σ st H := by
  have fr : ∀ a, (F.pin p o).H0 a = none → F.H0 a = none := fun a h => by
    by_cases z : a = p
    · rw [z]; exact f0
    · exact (if_neg z).symm.trans h
  refine ⟨I.slot, I.one, fun i x a h1 h2 => ?_, fun a u h1 h2 => I.keep a u ?_ h2, I.glen, I.glob, I.gone, I.hid, fun q hq => ⟨fr _ (I.hfr q hq).1, (I.hfr q hq).2⟩⟩
  · obtain ⟨g1, g2, g3⟩ := I.fresh i x a h1 h2
    exact ⟨fr a g1, g2, g3⟩
  · by_cases z : a = p
    · rw [z, f0] at h1; cases h1
    · exact (if_neg z).trans h1
/-- the object is made -/
theorem SI.poke (I : SI (F.pin p o) σ st H) (f0 : F.H0 p = none) (nl : p ∉ F.l) (pe : Pers H (upd H p o')) : SI F σ st (upd H p o') := by
  have fp : (F.pin p o).H0 p = some o := if_pos rfl
  have J := I.unpin f0
  have ne : ∀ (i : Nat) (x : List D) (a : Addr), st.r[i]? = some (.own x) → σ[i]? = some (some (.ref a)) → a ≠ p := fun i x a h1 h2 e => by
    have := (I.fresh i x a h1 h2).1
    rw [e, fp] at this; cases this
  refine ⟨fun i x hx => ?_, J.one, J.fresh, fun b u h1 h2 => ?_, J.glen, fun k kd b h1 h2 => ?_, J.gone, fun q hq => ?_, J.hfr⟩
  · obtain ⟨y, h1, h2⟩ := J.slot i x hx
    refine ⟨y, h1, ?_⟩
    cases x with
    | none => trivial
    | val d => obtain ⟨v, e1, e2⟩ := h2; exact ⟨v, e1, Rep.pers pe _ _ e2⟩
    | own ds =>
      obtain ⟨b, ws, e1, e2, e3⟩ := h2
      refine ⟨b, ws, e1, ?_, RepL.pers pe _ _ e3⟩
      rw [upd_ne (ne i ds b hx (by rw [h1, e1]))]
      exact e2
    | glb k => exact h2
  · rw [upd_ne (fun z => by rw [z, f0] at h1; cases h1)]
    exact J.keep b u h1 h2
  · obtain ⟨kvs, q1, q2, q3⟩ := J.glob k kd b h1 h2
    refine ⟨kvs, ?_, q2, RepL.pers pe _ _ q3⟩
    rw [upd_ne (fun z => nl (by rw [← z]; exact List.mem_of_getElem? h2))]
    exact q1
  · obtain ⟨ws, q1, q2⟩ := J.hid q hq
    refine ⟨ws, ?_, RepL.pers pe _ _ q2⟩
    rw [upd_ne (fun z => by have := (I.hfr q hq).1; rw [z, fp] at this; cases this)]
    exact q1
theorem mergeK_nodup : ∀ (more kvs : List (Key × V)), ((kvs ++ more).map (·.1)).Nodup → mergeK kvs more = kvs ++ more
  | [], kvs, _ => by simp [mergeK]
  | q :: more, kvs, nd => by
    have hn : valV kvs q.1 = none := by
      cases z : valV kvs q.1 with
      | none => rfl
      | some v =>
        exfalso
        unfold valV at z
        cases w : kvs.find? (fun kv => decide (kv.1 = q.1)) with
        | none => rw [w] at z; cases z
        | some y =>
          have h1 := List.mem_of_find?_eq_some w
          have h2 := List.find?_some w
          simp only [decide_eq_true_eq] at h2
          rw [List.map_append, List.nodup_append] at nd
          exact nd.2.2 y.1 (List.mem_map_of_mem h1) q.1 (by simp) h2
    show mergeK (putK kvs q.1 q.2) more = _
    rw [putK_new _ hn, mergeK_nodup more (kvs ++ [(q.1, q.2)]) (by simpa using nd)]
    simp
def tPs (T : Tbl) (XR : Hp → Nat → List D → Value → Option Addr → Prop) (W : WX) : List Key → List E → List (TE × TE)
  | k :: ks, a :: as => (tC (kV k), tE T XR W a) :: tPs T XR W ks as
  | _, _ => []
theorem tPs_mono : ∀ {ks : List Key} {as : List E} {H : Hp} {Q Q' : List (V × V) → Hp → Prop}, tPairs (tPs T XR W ks as) σ H Q → (∀ ps H, Q ps H → Q' ps H) → tPairs (tPs T XR W ks as) σ H Q'
  | [], _, _, _, _, h, k => k _ _ h
  | _ :: _, [], _, _, _, h, k => k _ _ h
  | q :: ks, a :: as, H, Q, Q', h, k => by
    have h : tE T XR W a σ H fun y H2 => tPairs (tPs T XR W ks as) σ H2 fun ps H3 => Q ((kV q, y) :: ps) H3 := h
    exact tE_mono h fun y H2 z => tPs_mono z fun ps H3 z => k _ _ z
theorem tL_len : ∀ {as : List E} {H : Hp} {Q : List V → Hp → Prop}, tL T XR W as σ H Q → tL T XR W as σ H fun xs H1 => xs.length = as.length ∧ Q xs H1
  | [], H, Q, h => ⟨rfl, h⟩
  | a :: as, H, Q, h => by
    have h : tE T XR W a σ H fun x H1 => tL T XR W as σ H1 fun xs H2 => Q (x :: xs) H2 := h
    exact tE_mono h fun v H1 q => tL_mono (tL_len q) fun xs H2 q => ⟨by simp [q.1], q.2⟩
theorem pairsGo : ∀ (ks : List Key) (as : List E) (vs : List V → Hp → Prop) (H : Hp), ks.length = as.length → tL T XR W as σ H vs → tPairs (tPs T XR W ks as) σ H fun ps H2 => ∃ us, us.length = ks.length ∧ ps = (ks.zip us).map (fun kv => (kV kv.1, kv.2)) ∧ vs us H2
  | [], [], Q, H, _, h => ⟨[], rfl, rfl, h⟩
  | [], _ :: _, _, _, h, _ => by simp at h
  | _ :: _, [], _, _, h, _ => by simp at h
  | k :: ks, a :: as, Q, H, hl, h => by
    have h : tE T XR W a σ H fun x H1 => tL T XR W as σ H1 fun xs H2 => Q (x :: xs) H2 := h
    show tE T XR W a σ H fun y H2 => tPairs (tPs T XR W ks as) σ H2 fun ps H3 => _
    refine tE_mono h fun x H1 q => ?_
    have := pairsGo ks as _ H1 (by simpa using hl) q
    refine tPs_mono this ?_
    rintro ps H2 ⟨us, hu, rfl, q2⟩
    exact ⟨x :: us, by simp [hu], rfl, q2⟩
theorem RepL.keys {ks : List Key} {ds : List D} {vs : List V} (h1 : ks.length = ds.length) (r : RepL H ds vs) : ((ks.zip vs).map (·.1)) = ((ks.zip ds).map (·.1)) ∧ RepL H ((ks.zip ds).map (·.2)) ((ks.zip vs).map (·.2)) := by
  have h2 := r.len
  refine ⟨by rw [List.map_fst_zip (by omega), List.map_fst_zip (by omega)], ?_⟩
  rw [List.map_snd_zip (by omega), List.map_snd_zip (by omega)]
  exact r
theorem r_retDic {ks : List Key} {es : List E} {keys : List (Option Expr)} {values : List Expr} (hp : PPs X pos keys values (tPs T XR W ks es)) (hall : keys.all (·.isSome) = true) (hl : keys.length = values.length) (h0 : keys ≠ []) (h15 : keys.length ≤ 15)
    (hk : ks.length = es.length) (no : (es.all fun a => a.isOwn.isNone) = true) {p2 : Pos} : PS X (.Return (some (.Dict keys values pos)) p2) (denS T XR W (.retDic ks es)) := by
  refine psOf (ps_ret (pe_disp hp hall hl h0 h15)) fun σ H Dd ⟨F, st, I, h⟩ => ?_
  simp only [run] at h
  show tDisp (tPs T XR W ks es) σ H fun v H' => Dd.rt v H'
  intro p hpn
  obtain ⟨f0, nl, nh⟩ := I.free hpn
  have sm := same_upd (o := .dK []) hpn
  have h : Post XR W (F.pin p (.dK [])) σ (upd H p (.dK [])) (evs T es st) fun ds H1 => ∀ vs, RX H1 es ds vs → ∃ ds s1, RepL H1 ds vs ∧ SI (F.pin p (.dK [])) σ s1 H1 ∧ PostS XR W F H1 (if ks.length = ds.length ∧ ks.length ≤ 15 ∧ ks.Nodup then .retG (ks.zip ds) s1 else .bad) Dd := by
    cases q : evs T es st with
    | bad => rw [q] at h; exact h
    | exc c fs s1 =>
      rw [q] at h
      exact fun cls dd H' pe I' x => h F cls dd σ H' (Grown.refl F) ((Pers.of_same sm).trans pe) (I'.unpin f0) x
    | ok ds s1 =>
      rw [q] at h
      exact fun H1 pe I1 vs rv => ⟨ds, s1, rv.rep no, I1, PostS.weak (Grown.refl F) ((Pers.of_same sm).trans pe) h⟩
  have h := args es st _ _ (I.pin hpn) h
  refine tPs_mono (pairsGo ks es _ _ hk h) ?_
  rintro ps H2 ⟨us, hu, rfl, ds, s1, rp, I1, q⟩
  split at q
  rotate_left
  · exact q.elim
  rename_i hc
  obtain ⟨c1, c2, c3⟩ := hc
  have hp2 : H2 p = some (.dK []) := I1.keep p _ (if_pos rfl) nl
  have nd : ((([] : List (Key × V)) ++ ks.zip us).map (·.1)).Nodup := by
    rw [List.nil_append, List.map_fst_zip (by omega)]
    exact c3
  refine ⟨hp2, ks.zip us, rfl, ?_, ?_⟩
  · rw [List.length_zip]; omega
  rw [mergeK_nodup _ _ nd, List.nil_append]
  have pe : Pers H2 (upd H2 p (.dK (ks.zip us))) := pers_upd hp2 trivial
  obtain ⟨k1, k2⟩ := RepL.keys c1 rp
  exact q F σ _ p (Grown.refl F) pe (I1.poke f0 nl pe) f0 nl ⟨_, upd_same, k1, RepL.pers pe _ _ k2⟩
theorem r_gcall {i k : Nat} {x : Str} {p1 : Pos} {es : List E} (nd : X.N.Nodup) (hi : X.N[i]? = some x) (hx : Loc X.env.scope x) (fn : X.fn x = true)
    (he : PE X e (fun σ H Q => ∃ F st, SI F σ st H ∧ Post XR W F σ H (evc T es st) fun xs H1 => ∃ st1, SI F σ st1 H1 ∧ match T k xs st1.g with
      | .ret d g => Post XR W F σ H1 (.ok d ⟨st1.r, g⟩) (fun d H' => ∀ v, Rep H' d v → Q v H')
      | .retG kd g => ∀ a H', Pers H1 H' → SI F σ ⟨st1.r, g⟩ H' → H1 a = none → a ∉ F.l → F.H0 a = none → GRep H' kd a → (∀ b o, H1 b = some o → b ∉ F.l → H' b = some o) → Q (.ref a) H'
      | .exc c fs g => Post XR W F σ H1 (.exc c fs ⟨st1.r, g⟩ : Res D) (fun d H' => ∀ v, Rep H' d v → Q v H')
      | .bad => False)) (hs : noComp e = true) : PS X (.Assign [.Name x p1] e pos) (denS T XR W (.gcall i k es)) := by
  refine psOf (ps_set nd hi hx he (sw_none hs) (.inl fn)) fun σ H Dd ⟨F, st, I, h⟩ => ?_
  simp only [run] at h
  refine ⟨F, st, I, PostS.onE h fun xs s1 H1 _ p I1 q => ⟨s1, I1, ?_⟩⟩
  cases z : T k xs s1.g with
  | ret d g => rw [z] at q; exact q.elim
  | bad => rw [z] at q; exact q.elim
  | exc c fs g =>
    rw [z] at q
    exact fun cls dd H' pe I' x => q F cls dd σ H' (Grown.refl F) pe I' x
  | retG kd g =>
    rw [z] at q
    simp only at q
    split at q
    rotate_left
    · exact q.elim
    rename_i hi
    intro a H' pe I' ha nl f0 gr ch
    have nh : ∀ q ∈ F.hid, q.1 ≠ a := (I1.free ha).2.2
    let F2 : Fx := { F with l := F.l ++ [a] }
    have go : SI F2 σ ⟨s1.r, g ++ [kd]⟩ H' := by
      have up : ∀ {k : Nat} {b : Addr}, F.l[k]? = some b → (F.l ++ [a])[k]? = some b := fun {k b} e => by
        rw [List.getElem?_append_left (List.getElem?_eq_some_iff.mp e).1]; exact e
      have gl : g.length = F.l.length := I'.glen
      have dn : ∀ {k : Nat} {b : Addr}, (F.l ++ [a])[k]? = some b → (k < F.l.length ∧ F.l[k]? = some b) ∨ (k = F.l.length ∧ b = a) := fun {k b} e => by
        by_cases w : k < F.l.length
        · rw [List.getElem?_append_left w] at e; exact .inl ⟨w, e⟩
        · rw [List.getElem?_append_right (by omega)] at e
          have : k - F.l.length < 1 := by
            have := (List.getElem?_eq_some_iff.mp e).1
            simpa using this
          have e0 : k - F.l.length = 0 := by omega
          rw [e0] at e
          exact .inr ⟨by omega, by simpa using e.symm⟩
      refine ⟨fun j y hy => ?_, I'.one, fun j y b h1 h2 => ?_, fun b o h1 h2 => I'.keep b o h1 (fun w => h2 (List.mem_append_left _ w)), ?_, fun j kd' b h1 h2 => ?_, fun j l b h1 h2 => ?_, I'.hid, fun q hq => ⟨(I'.hfr q hq).1, fun w => ?_⟩⟩
      · obtain ⟨v, h1, h2⟩ := I'.slot j y hy
        refine ⟨v, h1, ?_⟩
        cases y with
        | none => trivial
        | val d => exact h2
        | own ds => exact h2
        | glb k => obtain ⟨b, e1, e2⟩ := h2; exact ⟨b, e1, up e2⟩
      · obtain ⟨g1, g2, g3⟩ := I'.fresh j y b h1 h2
        refine ⟨g1, fun w => ?_, g3⟩
        rcases List.mem_append.mp w with w | w
        · exact g2 w
        · have w : b = a := by simpa using w
          subst w
          have h1' : s1.r[j]? = some (.own y) := h1
          obtain ⟨c, us, e1, e2, _⟩ := I1.own h1'
          rw [h2] at e1
          cases e1
          rw [ha] at e2; cases e2
      · show (g ++ [kd]).length = (F.l ++ [a]).length
        simp [gl]
      · have h1 : (g ++ [kd])[j]? = some kd' := h1
        rcases dn h2 with ⟨w, e⟩ | ⟨w, rfl⟩
        · rw [List.getElem?_append_left (by omega)] at h1
          exact I'.glob j kd' b h1 e
        · rw [List.getElem?_append_right (by omega), w, gl] at h1
          simp at h1
          rw [← h1]; exact gr
      · rcases dn h1 with ⟨w, e⟩ | ⟨w, rfl⟩
        · rcases dn h2 with ⟨w2, e2⟩ | ⟨w2, rfl⟩
          · exact I'.gone j l b e e2
          · exact absurd (List.mem_of_getElem? e) nl
        · rcases dn h2 with ⟨w2, e2⟩ | ⟨w2, _⟩
          · exact absurd (List.mem_of_getElem? e2) nl
          · omega
      · rcases List.mem_append.mp w with w | w
        · exact (I'.hfr q hq).2 w
        · exact nh q hq (by simpa using w)
    have gl : g.length = F.l.length := I'.glen
    have grown : Grown F F2 := ⟨rfl, rfl, [a], rfl, fun b hb => by rw [show b = a by simpa using hb]; exact f0⟩
    refine q F2 _ H' grown pe (go.put (x := .glb g.length) hi ⟨a, rfl, ?_⟩ (fun z q => by cases q))
    show (F.l ++ [a])[g.length]? = some a
    rw [gl]; simp
end
end Rf

set_option Elab.async false
set_option linter.all false
set_option maxRecDepth 100000
set_option maxHeartbeats 8000000
namespace Rf
open PySem PySem.Spec PyProof.Rows L2

/-! ### statements: the checker -/
def bkOf (sc : Scope) : ScopeKind := if sc.kind.isAnnotationScope then .function else sc.kind
def isTup : Expr → Bool
  | .Tuple .. => true
  | _ => false
/-- the stores of a, b = .. come in order -/
def inOrder (sc : Scope) (ts : List Expr) : Expr → Bool
  | .Tuple vs _ _ => match swapP ts vs (bkOf sc) (fun x => sc.names.lookup x) with
    | some none => true
    | _ => false
  | _ => true
def fnSc (sc : Scope) : Bool := decide (sc.kind = .function)
/-- a comprehension that goes into a local on its own line -/
def ownComp (sc : Scope) (x : Str) (p : Pos) : Expr → Bool
  | .ListComp _ _ scope pos => fnSc sc && decide (sc.names.lookup x = some .local) && (p.line == pos.line) && !(scope.names.any fun (n, k) => n == x && (k == .local || k == .cell))
  | _ => false
def keysB : List Key → List (Option Expr) → Bool
  | [], [] => true
  | k :: ks, some e :: es => keyE k e && keysB ks es
  | _, _ => false
mutual
def chkS (C : Cfg) (N : List Str) : Scope → S → Stmt → Bool
  | sc, .set p m, s => match s with
    | .Assign [t] e _ => chkPat N (okDef sc) p t && noComp e && chk C N sc m e && (match p, t with
      | .nm _, .Name _ _ => true
      | .tp _, .Tuple ts _ _ => inOrder sc ts e
      | _, _ => false)
    | _ => false
  | sc, .setOwn i m, s => match s with
    | .Assign [.Name x p1] e pos => decide (N[i]? = some x) && okDef sc x && fresh m && chk C N sc m e && (noComp e || ownComp sc x p1 e)
    | _ => false
  | sc, .par i j oi oj a b, s => match s with
    | .Assign [.Tuple [.Name x px, .Name y py] _ _] (.Tuple [ea, eb] _ _) _ => decide (N[i]? = some x) && decide (N[j]? = some y) && decide (i ≠ j) && decide (sc.names.lookup x = some .local) && decide (sc.names.lookup y = some .local) &&
      plainE ea && plainE eb && (!oi || fresh a) && (!oj || fresh b) && chk C N sc a ea && chk C N sc b eb && (match swapP [.Name x px, .Name y py] [ea, eb] (bkOf sc) (fun x => sc.names.lookup x) with
        | some (some ns) => decide (ns = [x, y])
        | _ => false)
    | _ => false
  | sc, .gset i k m, s => match s with
    | .Assign [.Subscript v ek _] e _ => chkName N sc i v && keyE k ek && noComp e && chk C N sc m e
    | _ => false
  | sc, .drop m, s => match s with
    | .Expr e _ => noComp e && chk C N sc m e
    | _ => false
  | sc, .ret m, s => match s with
    | .Return (some e) _ => chk C N sc m e
    | _ => false
  | _, .retN, s => match s with
    | .Return none _ => true
    | _ => false
  | sc, .ifS c a b, s => match s with
    | .If ec ba bb _ => chk C N sc c ec && chkSs C N sc a ba && chkSs C N sc b bb
    | _ => false
  | sc, .forS p it src b, s => match s with
    | .For tg iter body [] _ => chkPat N (okDef sc) p tg && chki C N sc it src iter && chkSs C N sc b body
    | _ => false
  | sc, .matchS m cs, s => match s with
    | .Match e cases _ => chk C N sc m e && chkCs C N sc cs cases
    | _ => false
  | sc, .aug i p m, s => match s with
    | .AugAssign (.Name x _) op e _ => decide (N[i]? = some x) && okDef sc x && chk C N sc m e && (match p, op with
      | .add, .Add => true
      | .sub, .Sub => true
      | _, _ => false)
    | _ => false
  | sc, .retDic ks es, s => match s with
    | .Return (some (.Dict keys values _)) _ => !keys.isEmpty && decide (keys.length ≤ 15) && decide (ks.length = es.length) && (es.all fun a => a.isOwn.isNone) && keysB ks keys && chks C N sc es values
    | _ => false
  | sc, .gcall i k es, s => match s with
    | .Assign [.Name x _] (.Call (.Name f _) args kws _) _ => decide (N[i]? = some x) && okDef sc x && callB C sc k f args kws && chkc C N sc es (args ++ kws.map (·.value))
    | _ => false
  | _, .brk, s => match s with
    | .Break _ => true
    | _ => false
  | _, .cont, s => match s with
    | .Continue _ => true
    | _ => false
  | _, .pass, s => match s with
    | .Pass _ => true
    | _ => false
  | _, _, _ => false
def chkSs (C : Cfg) (N : List Str) : Scope → List S → List Stmt → Bool
  | _, [], [] => true
  | sc, .freeze _ :: ss, sts => chkSs C N sc ss sts
  | sc, s :: ss, st :: sts => chkS C N sc s st && chkSs C N sc ss sts
  | _, _, _ => false
def chkCs (C : Cfg) (N : List Str) : Scope → List S → List MatchCase → Bool
  | _, [], [] => true
  | sc, .caseK k b :: cs, ⟨.MatchValue (.Constant (.str y) _ _) _, none, body⟩ :: rest => decide (y.cps.toList = k) && decide (k.length ≤ big) && chkSs C N sc b body && chkCs C N sc cs rest
  | sc, .caseD b :: cs, ⟨.MatchAs none none _, none, body⟩ :: rest => cs.isEmpty && chkSs C N sc b body
  | _, _, _ => false
end

structure CokS (T : Tbl) (XR : Hp → Nat → List D → Value → Option Addr → Prop) (C : Cfg) (N : List Str) (sc : Scope) (W : WX) (X : Cx) : Prop where
  ok : Cok T XR C N sc W X
  own : PassesOwn (model X.prog X.w) X.A X.env X.xe
  fn : ∀ x, X.fn x = true
  kind : sc.kind = .function
section
variable {X : Cx} {T : Tbl} {XR : Hp → Nat → List D → Value → Option Addr → Prop} {W : WX} {C : Cfg} {N : List Str} {sc : Scope}
theorem bk_eq (c : X.env.scope = sc) : X.env.blockKind = bkOf sc := by rw [← c]; rfl
theorem loc_of {x : Str} (c : X.env.scope = sc) (h : okDef sc x = true) : Loc X.env.scope x := by
  rw [c]
  unfold okDef at h
  split at h
  · rename_i e; exact .inl e
  · rename_i e; exact .inr e
  · cases h
theorem in_order {ps : List Pat} {ts : List Expr} {e : Expr} {k : Nat} {p1 : Pos} (c : X.env.scope = sc) (h : inOrder sc ts e = true) : swappedStores [.Tuple ts k p1] e X.env = pure none := by
  unfold inOrder at h
  split at h
  · rename_i vs k2 p2
    split at h
    · rename_i z
      refine sw_of ?_
      rw [bk_eq c, ← z]
      subst c
      rfl
    · cases h
  · rename_i hn
    cases e <;> first | rfl | exact absurd rfl (hn _ _ _)
theorem snd (c : Cok T XR C N sc W X) {m : E} {e : Expr} (h : chk C N sc m e = true) : Snd T XR W X m e := sound _ m (Nat.lt_succ_self _) sc W X e c h
theorem r_own (c : CokS T XR C N sc W X) {i : Nat} {x : Str} {p1 pos : Pos} {m : E} {e : Expr} (hi : N[i]? = some x) (hd : okDef sc x = true) (hf : fresh m = true) (h : chk C N sc m e = true) (hs : (noComp e || ownComp sc x p1 e) = true) : PS X (.Assign [.Name x p1] e pos) (denS T XR W (.setOwn i m)) := by
  have hi' : X.N[i]? = some x := by rw [c.ok.n]; exact hi
  rcases Bool.or_eq_true _ _ |>.mp hs with hs | hs
  · exact r_setOwn c.ok.nd hi' (loc_of c.ok.sc hd) (c.fn x) ((snd c.ok h).pn hf) (sw_none hs)
  · unfold ownComp at hs
    split at hs
    rotate_left
    · cases hs
    rename_i ee gs scope pos2 _
    simp only [Bool.and_eq_true, decide_eq_true_eq, Bool.not_eq_true'] at hs
    obtain ⟨⟨⟨k1, k2⟩, k3⟩, k4⟩ := hs
    have k1 : sc.kind = .function := by simpa [fnSc] using k1
    cases m with
    | comp elt pt it src cs ws =>
      simp only [chk] at h
      split at h
      · rename_i ee2 tg iter ifs scope2 pos3 heq
        cases heq
        simp only [Bool.and_eq_true, decide_eq_true_eq, List.all_eq_true] at h
        obtain ⟨⟨⟨⟨⟨⟨h1, h2⟩, h3⟩, h4⟩, h5⟩, h6⟩, h7⟩ := h
        have c' := c.ok
        have bo : BlkOk X.N X.env.scope scope (ownOf N ws) := by
          have := blkOk_by h3
          rw [c'.n, c'.sc]
          exact this
        have wo : (ownOf N ws).map (·.2) = ws := by
          unfold ownOf
          rw [List.map_map]
          exact List.map_id' _
        have pg : ∀ (s : Shared) (H : Hp) (Cc : Addr) (cl : List (Str × Addr)) (fp : List Addr), PG (X.blk s H scope (compEnvC scope cl Cc X.env) fp) tg (patG X.K pt) := fun s H Cc cl fp =>
          pat_pg (X := X.blk s H scope (compEnvC scope cl Cc X.env) fp) (N := N) (ok := okDef scope) c'.n c'.nd c'.calm (fun x hx => by
            obtain ⟨q1, q2⟩ := relS_loc (N := N) (sc := X.env.scope) hx
            exact ⟨q1, q2⟩) pt tg h4
        refine psOf (ps_setLc (tt := tCs T XR W0 cs) (te := den T XR W0 elt) (wi := iD T XR W it src) c'.calm c'.nd hi' (by rw [c'.sc]; exact k2) (sw_true (by rw [c'.sc]; exact k1) (by rw [c'.sc]; exact k2) k3 k4) (pi_of c' (fun a _ e he => snd c' he) h7) bo pg
          (fun s H Cc cl fp => pts_of (c'.blk s H scope Cc cl fp) h1 (fun a _ e he => snd (c'.blk s H scope Cc cl fp) he) h5)
          (fun s H Cc cl fp => (snd (c'.blk s H scope Cc cl fp) h6).pe) (set_it h7)) fun σ H Dd w => ?_
        rw [wo]
        exact n_comp (F := ⟨[], H, []⟩) h1 (fun i hi => by simpa using h2 i hi) (setOwnGo w)
      · cases h
    | _ => first | (simp [fresh] at hf; done) | (simp [chk] at h; done)
theorem den_mon {m : E} {σ : L2.St} {H : Hp} {Q Q' : VK} (h : den T XR W m σ H Q) (k : ∀ v H, Q v H → Q' v H) : den T XR W m σ H Q' := by
  obtain ⟨F, st, I, h⟩ := h
  exact ⟨F, st, I, h.mono fun d s H1 _ _ _ q v rv => k v H1 (q v rv)⟩
theorem denN_mon {m : E} {σ : L2.St} {H : Hp} {Q Q' : VK} (h : denN T XR W m σ H Q) (k : ∀ v H, Q v H → Q' v H) : denN T XR W m σ H Q' := by
  obtain ⟨F, st, I, h⟩ := h
  exact ⟨F, st, I, h.mono fun d s H1 _ _ _ q v H' sm n => k v H' (q v H' sm n)⟩
theorem denB_mon {o : Bool} {m : E} {σ : L2.St} {H : Hp} {Q Q' : VK} (h : (if o then denN T XR W m else den T XR W m) σ H Q) (k : ∀ v H, Q v H → Q' v H) : (if o then denN T XR W m else den T XR W m) σ H Q' := by
  cases o with
  | false => rw [if_neg (by decide)] at h ⊢; exact den_mon h k
  | true => rw [if_pos rfl] at h ⊢; exact denN_mon h k
theorem keys_pps {ks : List Key} {pos : Pos} : ∀ {ks : List Key} {es : List E} {keys : List (Option Expr)} {values : List Expr}, keysB ks keys = true → ks.length = es.length → All2 X T XR W es values →
    PPs X pos keys values (tPs T XR W ks es) ∧ keys.all (·.isSome) = true ∧ keys.length = values.length
  | [], [], [], _, _, _, h => by cases h; exact ⟨pps_nil, rfl, rfl⟩
  | [], [], _ :: _, _, h, _, _ => by simp [keysB] at h
  | [], _ :: _, _, _, _, h, _ => by simp at h
  | _ :: _, [], _, _, _, h, _ => by simp at h
  | _ :: _, _ :: _, [], _, h, _, _ => by simp [keysB] at h
  | _ :: _, _ :: _, none :: _, _, h, _, _ => by simp [keysB] at h
  | k :: ks, a :: as, some e :: es, _, h, hl, A => by
    cases A with
    | cons a1 pl A =>
      simp only [keysB, Bool.and_eq_true] at h
      obtain ⟨q1, q2, q3⟩ := keys_pps (ks := ks) (pos := pos) h.2 (by simpa using hl) A
      exact ⟨pps_cons (key_pe (X := X) h.1).1 a1 q1, by rw [List.all_cons, q2]; rfl, by simp [q3]⟩
mutual
theorem soundS (c : CokS T XR C N sc W X) : ∀ (m : S) (e : Stmt), chkS C N sc m e = true → PS X e (denS T XR W m)
  | .set p m, s, h => by
    simp only [chkS] at h
    split at h
    · rename_i t e pos
      simp only [Bool.and_eq_true] at h
      obtain ⟨⟨⟨h1, h2⟩, h3⟩, h4⟩ := h
      have pe := (snd c.ok h3).pe
      split at h4
      · rename_i i x p1
        simp only [chkPat, Bool.and_eq_true, decide_eq_true_eq] at h1
        exact r_set c.ok.nd (by rw [c.ok.n]; exact h1.1) (loc_of c.ok.sc h1.2) (c.fn x) pe h2
      · rename_i ps ts k p1
        exact r_setP pe (pat_pg (N := N) (ok := okDef sc) c.ok.n c.ok.nd c.ok.calm (fun x hx => ⟨loc_of c.ok.sc hx, .inl (c.fn x)⟩) _ _ h1) h2 (in_order (ps := ps) c.ok.sc h4)
      · cases h4
    · cases h
  | .setOwn i m, s, h => by
    simp only [chkS] at h
    split at h
    · simp only [Bool.and_eq_true, decide_eq_true_eq] at h
      obtain ⟨⟨⟨⟨h1, h2⟩, h3⟩, h4⟩, h5⟩ := h
      exact r_own c h1 h2 h3 h4 h5
    · cases h
  | .par i j oi oj a b, s, h => by
    simp only [chkS] at h
    split at h
    · rename_i x px y py k1 p1 ea eb k2 p2 pos
      simp only [Bool.and_eq_true, decide_eq_true_eq, Bool.or_eq_true, Bool.not_eq_true'] at h
      obtain ⟨⟨⟨⟨⟨⟨⟨⟨⟨⟨⟨h1, h2⟩, h3⟩, h4⟩, h5⟩, h6⟩, h7⟩, h8⟩, h9⟩, h10⟩, h11⟩, h12⟩ := h
      have A := snd c.ok h10
      have B := snd c.ok h11
      have pa : PE X ea (if oi then denN T XR W a else den T XR W a) := by
        cases oi with
        | false => rw [if_neg (by decide)]; exact A.pe
        | true => rw [if_pos rfl]; exact A.pn (by simpa using h8)
      have pb : PE X eb (if oj then denN T XR W b else den T XR W b) := by
        cases oj with
        | false => rw [if_neg (by decide)]; exact B.pe
        | true => rw [if_pos rfl]; exact B.pn (by simpa using h9)
      have sw : swappedStores [.Tuple [.Name x px, .Name y py] k1 p1] (.Tuple [ea, eb] k2 p2) X.env = pure (some [x, y]) := by
        refine sw_of ?_
        rw [bk_eq c.ok.sc]
        split at h12
        · rename_i ns z
          simp only [decide_eq_true_eq] at h12
          rw [← h12, ← z]
          have := c.ok.sc
          subst this
          rfl
        · cases h12
      refine psOf (ps_par c.ok.calm c.ok.nd (by rw [c.ok.n]; exact h1) (by rw [c.ok.n]; exact h2) h3 (by rw [c.ok.sc]; exact h4) (by rw [c.ok.sc]; exact h5) (pa_cons pa (pa_cons pb pa_nil (star_cons h7 _ _)) (star_cons h6 _ _)) sw) fun σ H Dd ⟨F, st, I, w⟩ => ?_
      exact denB_mon (parGo I w) fun v H1 q => denB_mon q fun w H2 q => ⟨v, w, rfl, q⟩
    · cases h
  | .gset i k m, s, h => by
    simp only [chkS] at h
    split at h
    · simp only [Bool.and_eq_true] at h
      obtain ⟨⟨⟨h1, h2⟩, h3⟩, h4⟩ := h
      obtain ⟨x, pos, rfl, g1, g2, g3, g4⟩ := name_pe c.ok h1
      exact r_gset g1 g2 g3 g4 (by have := c.ok.un; omega) (key_pe (X := X) h2).1 (snd c.ok h4).pe h3
    · cases h
  | .drop m, s, h => by
    simp only [chkS] at h
    split at h
    · simp only [Bool.and_eq_true] at h
      exact r_drop (snd c.ok h.2).pe h.1
    · cases h
  | .ret m, s, h => by
    simp only [chkS] at h
    split at h
    · exact r_ret (snd c.ok h).pe
    · cases h
  | .retN, s, h => by
    simp only [chkS] at h
    split at h
    · exact r_retN
    · cases h
  | .ifS a b1 b2, s, h => by
    simp only [chkS] at h
    split at h
    · simp only [Bool.and_eq_true] at h
      exact r_if (snd c.ok h.1.1).pt (soundSs c b1 _ h.1.2) (soundSs c b2 _ h.2)
    · cases h
  | .forS p it src b, s, h => by
    simp only [chkS] at h
    split at h
    · simp only [Bool.and_eq_true] at h
      exact r_for c.own c.ok.calm (pi_of c.ok (fun a _ e he => snd c.ok he) h.1.2) (pat_pg (N := N) (ok := okDef sc) c.ok.n c.ok.nd c.ok.calm (fun x hx => ⟨loc_of c.ok.sc hx, .inl (c.fn x)⟩) _ _ h.1.1) (soundSs c b _ h.2) (set_it h.1.2)
    · cases h
  | .matchS m cs, s, h => by
    simp only [chkS] at h
    split at h
    · simp only [Bool.and_eq_true] at h
      exact r_match (snd c.ok h.1).pe (soundC c cs _ h.2)
    · cases h
  | .aug i p m, s, h => by
    simp only [chkS] at h
    split at h
    · simp only [Bool.and_eq_true, decide_eq_true_eq] at h
      obtain ⟨⟨⟨h1, h2⟩, h3⟩, h4⟩ := h
      split at h4
      · exact r_aug_add c.ok.nd (by rw [c.ok.n]; exact h1) (loc_of c.ok.sc h2) (c.fn _) (snd c.ok h3).pe
      · exact r_aug_sub c.ok.nd (by rw [c.ok.n]; exact h1) (loc_of c.ok.sc h2) (c.fn _) (snd c.ok h3).pe
      · cases h4
    · cases h
  | .retDic ks es, s, h => by
    simp only [chkS] at h
    split at h
    · simp only [Bool.and_eq_true, decide_eq_true_eq, Bool.not_eq_true'] at h
      obtain ⟨⟨⟨⟨⟨h1, h2⟩, h3⟩, h4⟩, h5⟩, h6⟩ := h
      obtain ⟨q1, q2, q3⟩ := keys_pps (ks := ks) h5 h3 (all2_of c.ok (fun a _ e he => snd c.ok he) h6)
      exact r_retDic q1 q2 q3 (fun z => by rw [z] at h1; cases h1) h2 h3 h4
    · cases h
  | .gcall i k es, s, h => by
    simp only [chkS] at h
    split at h
    · rename_i x p1 f pp args kws p2 p3
      rw [Bool.and_eq_true, Bool.and_eq_true, Bool.and_eq_true] at h
      obtain ⟨⟨⟨h1, h2⟩, h3⟩, h4⟩ := h
      simp only [decide_eq_true_eq] at h1
      obtain ⟨ps, g1, g2, g3, g4, g5⟩ := callB_of c.ok h3
      exact r_gcall c.ok.nd (by rw [c.ok.n]; exact h1) (loc_of c.ok.sc h2) (c.fn x) (s_callG g1 c.ok.gd c.ok.tk g2 g3 (all3_of c.ok (fun a _ e he => snd c.ok he) h4) g4 g5) rfl
    · cases h
  | .brk, s, h => by
    simp only [chkS] at h
    split at h
    · exact r_brk
    · cases h
  | .cont, s, h => by
    simp only [chkS] at h
    split at h
    · exact r_cont
    · cases h
  | .pass, s, h => by
    simp only [chkS] at h
    split at h
    · exact r_pass
    · cases h
  | .caseK _ _, s, h => by simp [chkS] at h
  | .caseD _, s, h => by simp [chkS] at h
  | .freeze _, s, h => by simp [chkS] at h
theorem soundSs (c : CokS T XR C N sc W X) : ∀ (m : List S) (e : List Stmt), chkSs C N sc m e = true → PSs X e (denSs T XR W m)
  | [], [], _ => rs_nil
  | [], _ :: _, h => by simp [chkSs] at h
  | m :: ms, e, h => by
    by_cases z : ∃ i, m = .freeze i
    · obtain ⟨i, rfl⟩ := z
      simp only [chkSs] at h
      exact rs_freeze (soundSs c ms e h)
    · cases e with
      | nil => cases m <;> first | (exact absurd ⟨_, rfl⟩ z) | simp [chkSs] at h
      | cons st sts =>
        have h : (chkS C N sc m st && chkSs C N sc ms sts) = true := by
          cases m <;> first | (exact absurd ⟨_, rfl⟩ z) | exact h
        simp only [Bool.and_eq_true] at h
        exact rs_cons (soundS c m st h.1) (soundSs c ms sts h.2)
theorem soundC (c : CokS T XR C N sc W X) : ∀ (m : List S) (e : List MatchCase), chkCs C N sc m e = true → MC X e (fun x => denM T XR W x m)
  | [], [], _ => mc_nil
  | [], _ :: _, h => by simp [chkCs] at h
  | m :: ms, e, h => by
    cases m with
    | caseK k b =>
      cases e with
      | nil => simp [chkCs] at h
      | cons mc rest =>
        obtain ⟨pt, gd, body⟩ := mc
        cases gd with
        | some g => cases pt <;> simp [chkCs] at h
        | none =>
          cases pt with
          | MatchValue v p2 =>
            cases v with
            | Constant cv kd p1 =>
              cases cv with
              | str y =>
                simp only [chkCs, Bool.and_eq_true, decide_eq_true_eq] at h
                obtain ⟨⟨⟨h1, h2⟩, h3⟩, h4⟩ := h
                subst h1
                exact mc_key (by have := c.ok.un; omega) h2 (soundSs c b _ h3) (soundC c ms _ h4)
              | _ => simp [chkCs] at h
            | _ => simp [chkCs] at h
          | _ => simp [chkCs] at h
    | caseD b =>
      cases e with
      | nil => simp [chkCs] at h
      | cons mc rest =>
        obtain ⟨pt, gd, body⟩ := mc
        cases gd with
        | some g => cases pt <;> simp [chkCs] at h
        | none =>
          cases pt with
          | MatchAs pp nm p2 =>
            cases pp with
            | some _ => simp [chkCs] at h
            | none =>
              cases nm with
              | some _ => simp [chkCs] at h
              | none =>
                simp only [chkCs, Bool.and_eq_true] at h
                exact mc_def (soundSs c b _ h.2)
          | _ => simp [chkCs] at h
    | _ => simp [chkCs] at h
end
end
end Rf

set_option Elab.async false
set_option linter.all false
set_option maxRecDepth 100000
set_option maxHeartbeats 4000000
namespace Rf
open PySem PySem.Spec PyProof.Rows L2

theorem look_zip {α : Type} : ∀ {ps : List Str} {us : List α} {p : Str}, p ∉ ps → (ps.zip us).lookup p = none
  | [], us, p, h => rfl
  | q :: ps, [], p, h => rfl
  | q :: ps, u :: us, p, h => by
    rw [List.zip_cons_cons, List.lookup_cons]
    have : (p == q) = false := beq_eq_false_iff_ne.mpr fun e => h (by rw [e]; simp)
    rw [this]
    exact look_zip fun z => h (List.mem_cons_of_mem _ z)
theorem fm_zip {α : Type} : ∀ {ps : List Str} {us : List α}, ps.Nodup → us.length = ps.length → ps.filterMap (fun n => ((ps.zip us).lookup n).map (n, ·)) = ps.zip us := by
  have gen : ∀ (qs : List Str) (ws : List α) (ps : List Str) (us : List α), (qs ++ ps).Nodup → ws.length = qs.length → us.length = ps.length → ps.filterMap (fun n => (((qs ++ ps).zip (ws ++ us)).lookup n).map (n, ·)) = ps.zip us := by
    intro qs ws ps
    induction ps generalizing qs ws with
    | nil => intro us _ _ h; simp
    | cons p ps ih =>
      intro us nd hw hu
      cases us with
      | nil => simp at hu
      | cons u us =>
        rw [List.zip_append hw.symm, List.zip_cons_cons]
        have hp : p ∉ qs := fun h => by
          rw [List.nodup_append] at nd
          exact nd.2.2 p h p (by simp) rfl
        have l1 : (qs.zip ws ++ (p, u) :: ps.zip us).lookup p = some u := by
          rw [List.lookup_append, look_zip hp, Option.none_or, List.lookup_cons, beq_self_eq_true]
        rw [List.filterMap_cons, l1]
        simp only [Option.map_some]
        have := ih (qs ++ [p]) (ws ++ [u]) us (by simpa using nd) (by simp [hw]) (by simpa using hu)
        rw [List.append_assoc, List.append_assoc, List.zip_append hw.symm] at this
        simp only [List.singleton_append, List.zip_cons_cons] at this
        rw [this]
  intro ps us nd hl
  exact gen [] [] ps us nd rfl hl
theorem look_app {α : Type} {xs : List (Str × α)} {p : Str} : (∀ y ∈ xs, y.1 ≠ p) → xs.lookup p = none := by
  induction xs with
  | nil => intro _; rfl
  | cons x xs ih =>
    intro h
    obtain ⟨k, v⟩ := x
    rw [List.lookup_cons]
    have : (p == k) = false := beq_eq_false_iff_ne.mpr fun e => h (k, v) (by simp) e.symm
    rw [this]
    exact ih fun y hy => h y (List.mem_cons_of_mem _ hy)
theorem kw_loop {f : Str × Value → List (Str × Value) × List (Str × Value) → Sem (ForInStep (List (Str × Value) × List (Str × Value)))} : ∀ (l slots ex : List (Str × Value)),
    (∀ x ∈ l, ∀ sl e, sl.lookup x.1 = none → f x (sl, e) = pure (.yield (sl ++ [x], e))) → ((slots ++ l).map (·.1)).Nodup → forIn l (slots, ex) f = (pure (slots ++ l, ex) : Sem _)
  | [], slots, ex, _, _ => by rw [List.forIn_nil, List.append_nil]
  | x :: l, slots, ex, hf, nd => by
    have ln : slots.lookup x.1 = none := look_app fun y hy e => by
      rw [List.map_append, List.nodup_append] at nd
      exact nd.2.2 y.1 (List.mem_map_of_mem hy) x.1 (by simp) e
    rw [List.forIn_cons, hf x (by simp) slots ex ln, pure_bind]
    have := kw_loop (f := f) l (slots ++ [x]) ex (fun y hy => hf y (List.mem_cons_of_mem _ hy)) (by simpa using nd)
    simp only
    rw [this]
    simp
theorem bind_gen {fd : FuncData} {ps : List Str} {us : List Value} {j : Nat} (h1 : fd.params.posonlyargs = []) (h2 : fd.params.args.map (·.arg) = ps) (h3 : fd.params.kwonlyargs = []) (h4 : fd.params.vararg = none) (h5 : fd.params.kwarg = none) (h6 : fd.defaults = .none)
    (nd : ps.Nodup) (hl : us.length = ps.length) (hj : j ≤ ps.length) : bindArgs fd ⟨us.take j, (ps.drop j).zip (us.drop j)⟩ = pure (ps.zip us) := by
  have z0 : ps.zip (us.take j) = (ps.take j).zip (us.take j) := by
    conv => lhs; rw [← List.take_append_drop j ps]
    have : us.take j = us.take j ++ [] := by simp
    rw [this, List.zip_append (by simp [hl]), List.append_nil]
    simp
  have zz : ps.zip (us.take j) ++ (ps.drop j).zip (us.drop j) = ps.zip us := by
    rw [z0, ← List.zip_append (by simp [hl]), List.take_append_drop, List.take_append_drop]
  have zn : ((ps.zip us).map (·.1)) = ps := by rw [List.map_fst_zip]; omega
  unfold bindArgs
  simp only [h1, h2, h3, h4, h5, h6, List.map_nil, List.nil_append]
  rw [kw_loop _ _ _ (fun x hx sl e hs => ?_) (by rw [zz, zn]; exact nd)]
  · rw [pure_bind, zz]
    have e1 : seqItems? Value.none = pure none := rfl
    rw [e1]
    simp only [pure_bind]
    have hg : ¬ ((decide ((us.take j).length > ps.length) && (none : Option Arg).isNone) = true) := by
      simp; omega
    have g2 : (us.take j).length > ps.length ↔ False := by simp; omega
    have lk : ∀ n ∈ ps, ((ps.zip us).lookup n).isNone = false := fun n hn => by
      have h := fm_zip nd hl
      cases q : (ps.zip us).lookup n with
      | some v => rfl
      | none =>
        exfalso
        have : ∀ y ∈ ps.zip us, y.1 ≠ n := fun y hy e => by
          have hy2 := hy
          rw [← h] at hy2
          obtain ⟨m, hm, e2⟩ := List.mem_filterMap.mp hy2
          cases w : (ps.zip us).lookup m with
          | none => rw [w] at e2; cases e2
          | some v =>
            rw [w] at e2
            simp only [Option.map_some, Option.some.injEq] at e2
            rw [← e2] at e
            simp only at e
            subst e
            rw [w] at q; cases q
        have : n ∈ (ps.zip us).map (·.1) := by rw [zn]; exact hn
        obtain ⟨y, hy, e⟩ := List.mem_map.mp this
        exact ‹∀ y ∈ ps.zip us, y.1 ≠ n› y hy e
    simp only [g2, decide_false, Bool.false_and, Option.getD_none, List.drop_zero, Nat.sub_zero]
    have m0 : ps.filter (fun n => ((ps.zip us).lookup n).isNone) = [] := by
      rw [List.filter_eq_nil_iff]
      intro n hn
      rw [lk n hn]
      decide
    simp [m0, fm_zip nd hl]
  · have hc : x.1 ∈ ps := by
      have : x.1 ∈ ((ps.drop j).zip (us.drop j)).map (·.1) := List.mem_map_of_mem hx
      rw [List.map_fst_zip (by simp [hl])] at this
      exact List.mem_of_mem_drop this
    simp [hc, hs]

/-! ### a def as data -/
structure Def where
  x : Str
  ps : List Str
  N : List Str
  body : List S
def cutG (n : Nat) : SRes → FRes
  | .nx s => .ret .non (s.g.take n)
  | .ret v s => .ret v (s.g.take n)
  | .retG kd s => .retG kd (s.g.take n)
  | .exc c fs s => .exc c fs (s.g.take n)
  | _ => .bad
def mirror (T : Tbl) (d : Def) : Mirror := fun xs g => if xs.length = d.ps.length then cutG g.length (runs T d.body ⟨xs ++ List.replicate (d.N.length - d.ps.length) .none, g⟩) else .bad
def TB (ds : List Def) : Nat → Tbl
  | 0 => fun _ _ _ => .bad
  | n + 1 => fun k => match ds[k]? with
    | some d => mirror (TB ds n) d
    | none => fun _ _ => .bad
theorem TB_len {ds : List Def} {n k : Nat} {d : Def} (e : ds[k]? = some d) {xs : List Slot} {g : List Gd} (h : xs.length ≠ d.ps.length) : TB ds n k xs g = .bad := by
  cases n with
  | zero => rfl
  | succ n =>
    unfold TB
    rw [e]
    exact if_neg h
def argsB (ps : List Str) (a : Arguments) : Bool := a.posonlyargs.isEmpty && decide (a.args.map (·.arg) = ps) && a.kwonlyargs.isEmpty && a.vararg.isNone && a.kwarg.isNone
def scopeB (ps N : List Str) (sc : Scope) : Bool := decide (sc.kind = .function) && !sc.isCoroutine && !sc.isGenerator && decide N.Nodup && decide (N.take ps.length = ps) && ps.all (okDef sc) && sc.names.all fun y => y.2 != .free
def defB (C : Cfg) (d : Def) (st : Stmt) : Bool := scopeB d.ps d.N (defScope st) && argsB d.ps (defArgs st) && chkSs C d.N (defScope st) d.body (defBody st)
theorem scope_of {ps N : List Str} {sc : Scope} (h : scopeB ps N sc = true) : FnScope N ps sc := by
  unfold scopeB at h
  simp only [Bool.and_eq_true, decide_eq_true_eq, Bool.not_eq_true', List.all_eq_true] at h
  obtain ⟨⟨⟨⟨⟨⟨h1, h2⟩, h3⟩, h4⟩, h5⟩, h6⟩, h7⟩ := h
  refine ⟨h1, h2, h3, h4, h5, fun x hx => ?_, fun y hy => by simpa using h7 y hy⟩
  have := h6 x hx
  unfold okDef at this
  split at this
  · rename_i e; exact .inl e
  · rename_i e; exact .inr e
  · cases this
theorem bindK_of {K : PySem.W.Frag} {x : Str} {st : Stmt} {f : Addr} {fd : FuncData} {ps N : List Str} (F : Fun K x x st f fd) (h : argsB ps (defArgs st) = true) (nd : ps.Nodup) : BindK K fd ps := by
  obtain ⟨oc, od, kV, doc, pm, an, cdv, ct, osl, rfl, lk, code⟩ := F.ex
  unfold argsB at h
  simp only [Bool.and_eq_true, decide_eq_true_eq, List.isEmpty_iff, Option.isNone_iff_eq_none] at h
  obtain ⟨⟨⟨⟨h1, h2⟩, h3⟩, h4⟩, h5⟩ := h
  exact fun s us j _ hl hj => .of_eq (bind_gen h1 h2 h3 h4 h5 rfl nd hl hj)
theorem start_SI {l : List Addr} {H : Hp} {xs : List Slot} {vs : List V} {g : List Gd} {N ps : List Str} (r : SlotReps l H xs vs) (gr : GR l H g) (hl : xs.length = ps.length) (hN : ps.length ≤ N.length) :
    SI ⟨l, H, []⟩ (L2.start N vs) ⟨xs ++ List.replicate (N.length - ps.length) .none, g⟩ H := by
  have lv : vs.length = xs.length := r.len
  have at1 : ∀ {xs : List Slot} {vs : List V} {i : Nat} {y : Slot}, SlotReps l H xs vs → xs[i]? = some y → ∃ v, vs[i]? = some v ∧ SlotRep l H y (some v) ∧ ∀ z, y ≠ .own z := by
    intro xs
    induction xs with
    | nil => intro vs i y _ e; simp at e
    | cons x xs ih =>
      intro vs i y r e
      obtain ⟨v, r', rfl, h1, h2⟩ := r
      cases i with
      | zero =>
        simp at e
        subst e
        refine ⟨v, rfl, ?_, ?_⟩
        · cases x with
          | val d => exact ⟨v, rfl, h1⟩
          | glb k => obtain ⟨a, rfl, h⟩ := h1; exact ⟨a, rfl, h⟩
          | none => exact h1.elim
          | own => exact h1.elim
        · intro z e; subst e; exact h1
      | succ i =>
        obtain ⟨u, q1, q2, q3⟩ := ih h2 (by simpa using e)
        exact ⟨u, by simpa using q1, q2, q3⟩
  have no : ∀ (i : Nat) (z : List D), (xs ++ List.replicate (N.length - ps.length) Slot.none)[i]? ≠ some (.own z) := by
    intro i z e
    by_cases hi : i < xs.length
    · rw [List.getElem?_append_left hi] at e
      obtain ⟨v, _, _, h⟩ := at1 r e
      exact h z rfl
    · rw [List.getElem?_append_right (by omega), List.getElem?_replicate] at e
      split at e <;> cases e
  refine ⟨fun i y e => ?_, fun i j x y a h1 => absurd h1 (no i x), fun i x a h1 => absurd h1 (no i x), fun a o h _ => h, gr.glen, gr.glob, gr.gone, fun p hp => ?_, fun p hp => ?_⟩
  · by_cases hi : i < xs.length
    · have e : (xs ++ List.replicate (N.length - ps.length) Slot.none)[i]? = some y := e
      rw [List.getElem?_append_left hi] at e
      obtain ⟨v, h1, h2, _⟩ := at1 r e
      refine ⟨some v, ?_, h2⟩
      unfold L2.start
      rw [List.getElem?_append_left (by simpa using (by omega : i < vs.length)), List.getElem?_map, h1]
      rfl
    · have e : (xs ++ List.replicate (N.length - ps.length) Slot.none)[i]? = some y := e
      rw [List.getElem?_append_right (by omega), List.getElem?_replicate] at e
      split at e
      · rename_i hb
        cases e
        refine ⟨none, ?_, trivial⟩
        unfold L2.start
        rw [List.getElem?_append_right (by simp; omega), List.getElem?_replicate, if_pos]
        simp
        omega
      · cases e
  · simp at hp
  · simp at hp
/-- what stands where a def is -/
def Here (P : Program) (w : World) (K : PySem.W.Frag) (mg : Str → Option Value) (base : Heap) (XR : Hp → Nat → List D → Value → Option Addr → Prop) (lv : Nat) (F : Mirror) (x : Str) (ps : List Str) : Prop :=
  ∃ f fd, FnG P w K mg base lv f fd ps (spF XR ps.length F) ∧ mg x = some (.ref f) ∧ PySem.W.keepIn K (.ref f) = true ∧ BindK K fd ps ∧ ∀ xs g, xs.length ≠ ps.length → F xs g = .bad
section
variable {P : Program} {w : World} {K : PySem.W.Frag} {mg : Str → Option Value} {base : Heap} {XR : Hp → Nat → List D → Value → Option Addr → Prop}
theorem gr_cut {F F' : Fx} {l : List Addr} {H' : Hp} {g : List Gd} {n : Nat} (h : GR F'.l H' g) (m : ∃ m, F'.l = l ++ m) (hn : n = l.length) : GR l H' (g.take n) := by
  obtain ⟨m, e⟩ := m
  subst hn
  have up : ∀ {k : Nat} {b : Addr}, l[k]? = some b → F'.l[k]? = some b := fun {k b} q => by
    rw [e, List.getElem?_append_left (List.getElem?_eq_some_iff.mp q).1]; exact q
  refine ⟨?_, fun k kd a h1 h2 => h.glob k kd a ?_ (up h2), fun i j a h1 h2 => h.gone i j a (up h1) (up h2)⟩
  · rw [List.length_take, h.glen, e, List.length_append]; omega
  · rw [List.getElem?_take] at h1
    split at h1
    · exact h1
    · cases h1
theorem fn_ok {C : Cfg} {T : Tbl} {d : Def} {st : Stmt} {f : Addr} {fd : FuncData} {k : Nat} (F : Fun K d.x d.x st f fd) (hb : defB C d st = true) (hmg : mg d.x = some (.ref f))
    (hf : ∀ j x, C.fns[j]? = some x → Here P w K mg base XR k (T j) x.1 x.2)
    (hc : ∀ p ∈ C.cs, ∃ u v, mg p.1 = some u ∧ scalV p.2 = some v ∧ RelV v u) (hbl : ∀ x ∈ bltNames, mg x = none) : Here P w K mg base XR (k + 1) (mirror T d) d.x d.ps := by
  unfold defB at hb
  simp only [Bool.and_eq_true] at hb
  obtain ⟨⟨h1, h2⟩, h3⟩ := hb
  have S := scope_of h1
  have hpl : d.ps.length ≤ d.N.length := by have := congrArg List.length S.pre; rw [List.length_take] at this; omega
  have ndp : d.ps.Nodup := by rw [← S.pre]; exact List.Sublist.nodup (List.take_sublist _ _) S.nd
  refine ⟨f, fd, Fun.okG F S (fun vs H Q E h => ?_) (fun cdv A outer s H vs Q E room gd want => ?_), hmg, F.kp, bindK_of (N := d.N) F h2 ndp, fun xs g h => if_neg h⟩
  · obtain ⟨l, xs, g, r, _, hl, _⟩ := h
    rw [r.len, hl]
  · obtain ⟨l, xs, g, r, gr, hl, want⟩ := want
    let X := cxOf (L2.CX P w) P w K mg base d.N d.x (defScope st) f cdv A outer s H E
    let W : WX := fun cls dd _ H' => E cls dd H'
    have tk : Takes X W := takes_of rfl rfl rfl rfl
    have ok : Cok T XR C d.N (defScope st) W X := by
      refine ⟨rfl, rfl, S.nd, rfl, ?_, ?_, tk, fun j x e => ?_, hc, hbl⟩
      · show (A.deeper _).guards = some []
        exact gd
      · have := room.un
        show (A.deeper _).units + 100 < cLine
        omega
      · obtain ⟨f', fd', G, q1, q2, q3, q4⟩ := hf j x e
        exact ⟨k, f', fd', G, room, q1, q2, q3, q4⟩
    have okS : CokS T XR C d.N (defScope st) W X := ⟨ok, passes_of rfl, fun _ => rfl, S.kind⟩
    refine ⟨_, soundSs okS d.body (defBody st) h3, ⟨l, H, []⟩, ⟨xs ++ List.replicate (d.N.length - d.ps.length) .none, g⟩, start_SI r gr hl hpl, ?_⟩
    have ng : g.length = l.length := gr.glen
    have want : match cutG g.length (runs T d.body ⟨xs ++ List.replicate (d.N.length - d.ps.length) .none, g⟩) with
      | .ret v g' => ∀ u H', Chg l H H' → Pers H H' → GR l H' g' → Rep H' v u → Q u H'
      | .retG kd g' => ∀ a H', Chg l H H' → Pers H H' → GR l H' g' → H a = none → a ∉ l → GRep H' kd a → Q (.ref a) H'
      | .exc c fs g' => ∀ cls dd H', Chg l H H' → Pers H H' → GR l H' g' → XR H' c fs cls dd → E cls dd H'
      | .bad => False := by
      have : mirror T d xs g = cutG g.length (runs T d.body ⟨xs ++ List.replicate (d.N.length - d.ps.length) .none, g⟩) := if_pos hl
      rw [this] at want
      exact want
    have chg : ∀ {F' : Fx} {σ' : L2.St} {st' : Sx} {H' : Hp}, Grown ⟨l, H, []⟩ F' → SI F' σ' st' H' → Chg l H H' ∧ ∃ m, F'.l = l ++ m := by
      intro F' σ' st' H' gw I
      obtain ⟨m, e, hm⟩ := gw.more
      refine ⟨fun a o ha hn => I.keep a o (by rw [gw.h0]; exact ha) fun z => ?_, m, e⟩
      rw [e] at z
      rcases List.mem_append.mp z with z | z
      · exact hn z
      · have q : H a = none := hm a z
        rw [ha] at q; cases q
    cases q : runs T d.body ⟨xs ++ List.replicate (d.N.length - d.ps.length) .none, g⟩ with
    | nx s1 =>
      rw [q] at want
      intro F' σ' H' gw pe I
      obtain ⟨c1, c2⟩ := chg gw I
      exact want _ H' c1 pe (gr_cut (F := F') I.gr c2 ng) rfl
    | ret v s1 =>
      rw [q] at want
      intro F' u σ' H' gw pe I rv
      obtain ⟨c1, c2⟩ := chg gw I
      exact want u H' c1 pe (gr_cut (F := F') I.gr c2 ng) rv
    | retG kd s1 =>
      rw [q] at want
      intro F' σ' H' a gw pe I ha hn gg
      obtain ⟨c1, c2⟩ := chg gw I
      refine want a H' c1 pe (gr_cut (F := F') I.gr c2 ng) (by rw [gw.h0] at ha; exact ha) (fun z => hn ?_) gg
      obtain ⟨m, e⟩ := c2
      rw [e]; exact List.mem_append_left _ z
    | exc c fs s1 =>
      rw [q] at want
      intro F' cls dd σ' H' gw pe I x
      obtain ⟨c1, c2⟩ := chg gw I
      exact want cls dd H' c1 pe (gr_cut (F := F') I.gr c2 ng) x
    | bk s1 => rw [q] at want; exact want.elim
    | ct s1 => rw [q] at want; exact want.elim
    | bad => rw [q] at want; exact want.elim
end
end Rf

set_option Elab.async false
set_option linter.all false
set_option maxRecDepth 100000
set_option maxHeartbeats 4000000
namespace Rf
open PySem PySem.Spec PyProof.Rows L2

/-! ### all defs of a text, by fuel -/
/-- what the top has made of a def -/
def Made (K : PySem.W.Frag) (mg : Str → Option Value) (C : Cfg) (d : Def) : Prop := ∃ st f fd, Fun K d.x d.x st f fd ∧ defB C d st = true ∧ mg d.x = some (.ref f)
def cfgOf (ds : List Def) (cs : List (Str × D)) : Cfg := ⟨ds.map fun d => (d.x, d.ps), cs⟩
section
variable {P : Program} {w : World} {K : PySem.W.Frag} {mg : Str → Option Value} {base : Heap} {XR : Hp → Nat → List D → Value → Option Addr → Prop}
theorem all_ok {ds : List Def} {cs : List (Str × D)} (hm : ∀ d ∈ ds, Made K mg (cfgOf ds cs) d) (hc : ∀ p ∈ cs, ∃ u v, mg p.1 = some u ∧ scalV p.2 = some v ∧ RelV v u) (hbl : ∀ x ∈ bltNames, mg x = none) :
    ∀ (n j : Nat) (d : Def), ds[j]? = some d → Here P w K mg base XR n (TB ds n j) d.x d.ps
  | 0, j, d, e => by
    obtain ⟨st, f, fd, F, hb, hg⟩ := hm d (List.mem_of_getElem? e)
    have hb2 := hb
    unfold defB at hb2
    simp only [Bool.and_eq_true] at hb2
    have S := scope_of hb2.1.1
    have ndp : d.ps.Nodup := by rw [← S.pre]; exact List.Sublist.nodup (List.take_sublist _ _) S.nd
    refine ⟨f, fd, ⟨fun vs H Q E h => ?_, fun A outer s H args us vs Q E _ _ _ _ _ h => ?_⟩, hg, F.kp, bindK_of (N := d.N) F hb2.1.2 ndp, fun _ _ _ => rfl⟩
    · obtain ⟨l, xs, g, _, _, _, z⟩ := h; exact z.elim
    · obtain ⟨l, xs, g, _, _, _, z⟩ := h; exact z.elim
  | n + 1, j, d, e => by
    obtain ⟨st, f, fd, F, hb, hg⟩ := hm d (List.mem_of_getElem? e)
    have ih := all_ok hm hc hbl n
    have : TB ds (n + 1) j = mirror (TB ds n) d := by
      show (match ds[j]? with | some d => mirror (TB ds n) d | none => fun _ _ => .bad) = _
      rw [e]
    rw [this]
    refine fn_ok F hb hg (fun i x ex => ?_) hc hbl
    have ex : (ds.map fun d => (d.x, d.ps))[i]? = some x := ex
    rw [List.getElem?_map] at ex
    obtain ⟨d', e', rfl⟩ := Option.map_eq_some_iff.mp ex
    exact ih i d' e'

theorem ints_rep {H : Hp} : ∀ ns : List Int, RepL H (ns.map D.int) (ns.map V.int)
  | [] => by simp [RepL]
  | n :: ns => by
    simp only [List.map_cons, RepL]
    exact ⟨_, _, rfl, rfl, ints_rep ns⟩
/-- the law's call, from what its mirror says of every script -/
theorem law_G {mb : Str → Option Value} {k : Nat} {fa a : Addr} {x y : Str} {M : Mirror} {s₁ : Shared} {vs : List Value} {ns : List Int}
    (KX : K.In s₁.heap) (hns : s₁.heap.Ns mainGlobals mg) (hb : s₁.heap.Ns builtinsNs mb) (hbb : ∀ z : Str, z ≠ "__name__" → mb z = bootBuiltins z) (hlim : s₁.heap.NoLimit) (hg : s₁.gens = #[])
    (ha : s₁.heap.get? a = some { cls := .type "list", data := .seq vs.toArray }) (hi : IntsAre vs ns) (hl : ns.length ≤ sizeLine) (hr : Room k callerA) (nol : K.lookup a = none)
    (hfa : mg x = some (.ref fa)) (F : ∀ base : Heap, K.In base → base.Ns mainGlobals mg → Here P w K mg base (fun _ _ _ _ _ => False) k M x [y])
    (hM : M [.val (.lst (ns.map .int))] [] = .ret (.bl true) []) :
    codeAny (model P w) callerA (.call (.ref fa) ⟨[.ref a], []⟩) (fun r s' => r = .ok (.ret (.bool true)) ∧ OldK s₁.heap s'.heap ∧ s'.os = s₁.os ∧ AllBare s'.gens) s₁ := by
  have rv := vals_ints hi
  let H : Hp := fun b => if b = a then some (.frz { cls := .type "list", data := .seq vs.toArray } (.lst (ns.map V.int))) else none
  have Ha : H a = some (.frz { cls := .type "list", data := .seq vs.toArray } (.lst (ns.map V.int))) := if_pos rfl
  have Hn : ∀ {b : Addr}, b ≠ a → H b = none := fun h => if_neg h
  have hok : HOk P w H s₁.heap := fun b u z => by
    by_cases q : b = a
    · subst q
      rw [Ha] at z
      cases z
      exact ⟨ha, by rw [List.length_map]; exact hl, vs, _, rv, ha⟩
    · rw [Hn q] at z; cases z
  have nots : ∀ {b : Addr} {o : Obj}, s₁.heap.get? b = some o → b ≠ a → (hidT s₁.heap H).get? b = some o := fun e n => hidT_get e (Hn n)
  have nsK : ∀ {b : Addr} {m : Str → Option Value}, s₁.heap.Ns b m → (hidT s₁.heap H).Ns b m := fun {b m} ⟨o, es, ep, e, d, r⟩ => ⟨o, es, ep, nots e (fun q => by
    subst q
    rw [ha] at e
    cases e
    have d' : Data.seq vs.toArray _ = Data.dict es ep := d
    cases d'), d, r⟩
  have KB : K.In (hidT s₁.heap H) := fun b o e => nots (KX b o e) (fun q => by subst q; rw [nol] at e; cases e)
  have md : Mod K mg (hidT s₁.heap H) := ⟨KB, nsK hns, ⟨mb, nsK hb, hbb⟩, by obtain ⟨mc, h1, h2⟩ := hlim; exact ⟨mc, nsK h1, h2⟩⟩
  have e0 : Env0 P w K mg (hidT s₁.heap H) callerA [] s₁ H := ⟨rfl, md, fun b o e => of_hidT e, Nat.le_of_eq (hidT_size _ _), trivial, fun b z => by simp [frs] at z, hok, .of_eq hg⟩
  obtain ⟨f, fd, G, h1, h2, h3, h4⟩ := F _ KB (nsK hns)
  rw [hfa] at h1
  cases h1
  have bt : BindsTo s₁ fd ⟨[.ref a], []⟩ ([y].zip [.ref a]) := by
    have := h3 s₁ [.ref a] 1 KX rfl (Nat.le_refl _)
    simpa using this
  refine codeAny_mono (G.run callerA [] s₁ H ⟨[.ref a], []⟩ [.ref a] [.ref a] (fun v _ => v = .bl true) (fun _ _ _ => False) hr rfl e0 bt (.cons rfl .nil) ?_) fun r s' h => ?_
  · refine ⟨[], [.val (.lst (ns.map .int))], [], ⟨_, [], rfl, ?_, rfl⟩, ⟨rfl, fun k kd b q => by simp at q, fun i j b q => by simp at q⟩, rfl, ?_⟩
    · simp only [Rep]
      exact ⟨a, _, _, rfl, Ha, ints_rep ns⟩
    · rw [hM]
      exact fun v H' _ _ _ rr => rr
  · cases r with
    | error e =>
      obtain ⟨_, _, _, _, _, _, _, _, _, _, _, _, z⟩ := h
      exact z.elim
    | ok fl =>
      cases fl with
      | next => exact False.elim h
      | brk => exact False.elim h
      | cont => exact False.elim h
      | ret u =>
        obtain ⟨v, H', os, bare, un, hok', r', q⟩ := h
        have q : v = .bl true := q
        subst q
        obtain rfl : u = Value.bool true := r'
        refine ⟨rfl, OldK.of_keep fun b o e => ?_, os, bare⟩
        by_cases z : b = a
        · subst z
          have z2 := un.frzs b _ _ Ha
          obtain ⟨e2, _⟩ := hok' b _ z2
          rw [ha] at e
          cases e
          exact e2
        · exact un.keep b o e (Hn z) (by simp [frs]) (by simp)
end
/-- no list among the written part's objects -/
def noLists (K : PySem.W.Frag) : Bool := K.all fun p => match p.2.cls with
  | .type n => !(n == "list")
  | _ => true
theorem noLists_at {K : PySem.W.Frag} (h : noLists K = true) {a : Addr} {o : Obj} (e : K.lookup a = some o) (ho : o.cls = .type "list") : False := by
  unfold noLists at h
  rw [List.all_eq_true] at h
  have mem : (a, o) ∈ K := by
    clear h
    induction K with
    | nil => cases e
    | cons q r ih =>
      obtain ⟨b, u⟩ := q
      rw [List.lookup_cons] at e
      by_cases z : a = b
      · subst z
        rw [beq_self_eq_true] at e
        cases e
        exact List.mem_cons_self
      · rw [beq_eq_false_iff_ne.mpr z] at e
        exact List.mem_cons_of_mem _ (ih e)
  have := h (a, o) mem
  rw [ho] at this
  simp at this
theorem rf_walk {l : PySem.W.OpenLaw} {n k j : Nat} {q : Program} {loose : List Str} {XP : (Str → Option Value) → Heap → Prop} {YP : World → Heap → Prop} {d : DefRec} {K : Params → PySem.W.Frag} {ds : List Def} {cs : List (Str × D)} {dl : Def} {y : Str}
    (hn : l.most = some n) (hn2 : n ≤ sizeLine) (hdf : d.params.defaults = []) (hr : Room k callerA) (hj : ds[j]? = some dl) (hx : d.name = dl.x) (hy : dl.ps = [y])
    (hY : ∀ (w : World) (h : Heap), YP w h → (K w.params).In h) (nol : ∀ w : World, noLists (K w.params) = true)
    (F : ∀ (w : World) (mg : Str → Option Value) (h : Heap), (K w.params).In h → h.Ns mainGlobals mg →
      (∀ d ∈ ds, Made (K w.params) mg (cfgOf ds cs) d) ∧ (∀ p ∈ cs, ∃ u v, mg p.1 = some u ∧ scalV p.2 = some v ∧ RelV v u) ∧ (∀ x ∈ bltNames, mg x = none))
    (hM : ∀ ns : List Int, ns.length ≤ n → TB ds k j [.val (.lst (ns.map .int))] [] = .ret (.bl true) []) :
    PySem.W.WalkO q loose XP YP l.row.toRowW d [] (fun f vs => PySem.call f vs) := by
  refine Att.attach_call hn hdf fun w s₀ s₁ mg mb fa o pm cd doc a vs ns G Y ho hd hcd hmg hobj hints hlen hg => ?_
  have KX := hY w _ Y
  have nl : (K w.params).lookup a = none := by
    cases e : (K w.params).lookup a with
    | none => rfl
    | some o2 =>
      have := KX a o2 e
      rw [hobj] at this
      cases this
      exact (noLists_at (nol w) e rfl).elim
  obtain ⟨h1, h2, h3⟩ := F w mg _ KX G.T.g
  refine law_G (y := y) (x := dl.x) (M := TB ds k j) KX G.T.g G.T.b G.T.builtins G.T.nolimit hg hobj hints (Nat.le_trans hlen hn2) hr nl (by rw [← hx]; exact hmg) (fun base _ _ => ?_) (hM ns hlen)
  rw [← hy]
  exact all_ok h1 h2 h3 k j dl hj
example : Room 40 callerA := ⟨rfl, by decide, by decide⟩
end Rf

set_option Elab.async false
set_option linter.all false
set_option maxRecDepth 100000
set_option maxHeartbeats 4000000
namespace Rf
open PySem PySem.Spec PyProof.Rows L2

/-! ### the small language, told as equations -/
section
variable (T : Tbl) (st : Sx)
@[simp] theorem ev_var (i : Nat) : ev T (.var i) st = match st.r[i]? with | some (.val d) => .ok d st | _ => .bad := by first | (rw [ev]; done) | (rw [ev]; rfl)
@[simp] theorem ev_kint (i : Int) : ev T (.kint i) st = .ok (.int i) st := by first | (rw [ev]; done) | (rw [ev]; rfl)
@[simp] theorem ev_kstr (x : List Nat) : ev T (.kstr x) st = .ok (.str x) st := by first | (rw [ev]; done) | (rw [ev]; rfl)
@[simp] theorem ev_kbl (b : Bool) : ev T (.kbl b) st = .ok (.bl b) st := by first | (rw [ev]; done) | (rw [ev]; rfl)
@[simp] theorem ev_knon : ev T .knon st = .ok .non st := by first | (rw [ev]; done) | (rw [ev]; rfl)
@[simp] theorem ev_glo (x : Str) (d : D) : ev T (.glo x d) st = .ok d st := by first | (rw [ev]; done) | (rw [ev]; rfl)
@[simp] theorem ev_and (a b : E) : ev T (.and a b) st = (ev T a st).bind fun d s1 => match d with | .bl true => ev T b s1 | .bl false => .ok (.bl false) s1 | _ => .bad := by first | (rw [ev]; done) | (rw [ev]; rfl)
@[simp] theorem ev_or (a b : E) : ev T (.or a b) st = (ev T a st).bind fun d s1 => match d with | .bl true => .ok (.bl true) s1 | .bl false => ev T b s1 | _ => .bad := by first | (rw [ev]; done) | (rw [ev]; rfl)
@[simp] theorem ev_not (a : E) : ev T (.not a) st = (ev T a st).bind fun d s1 => match truth d with | some b => .ok (.bl (!b)) s1 | none => .bad := by first | (rw [ev]; done) | (rw [ev]; rfl)
@[simp] theorem ev_ite (c a b : E) : ev T (.ite c a b) st = (ev T c st).bind fun d s1 => match truth d with | some true => ev T a s1 | some false => ev T b s1 | none => .bad := by first | (rw [ev]; done) | (rw [ev]; rfl)
@[simp] theorem ev_prim (p : P) (es : List E) : ev T (.prim p es) st = (evs T es st).bind fun ds s1 => ofOpt (p.ap ds) s1 := by first | (rw [ev]; done) | (rw [ev]; rfl)
@[simp] theorem ev_chain (p q : P) (a b c : E) : ev T (.chain p q a b c) st = (ev T a st).bind fun x s1 => (ev T b s1).bind fun y s2 => match p.ap [x, y] with
    | some (.bl true) => (ev T c s2).bind fun z s3 => ofOpt (q.ap [y, z]) s3
    | some (.bl false) => .ok (.bl false) s2
    | _ => .bad := by first | (rw [ev]; done) | (rw [ev]; rfl)
@[simp] theorem ev_tup (es : List E) : ev T (.tup es) st = (evs T es st).bind fun ds s1 => if ds.length ≤ big then .ok (.tup ds) s1 else .bad := by first | (rw [ev]; done) | (rw [ev]; rfl)
@[simp] theorem ev_lst (es : List E) : ev T (.lst es) st = (evs T es st).bind fun ds s1 => if ds.length ≤ big then .ok (.lst ds) s1 else .bad := by first | (rw [ev]; done) | (rw [ev]; rfl)
@[simp] theorem ev_call (k : Nat) (es : List E) : ev T (.call k es) st = (evc T es st).bind fun xs s1 => match T k xs s1.g with
    | .ret d g => .ok d ⟨s1.r, g⟩
    | .exc c fs g => .exc c fs ⟨s1.r, g⟩
    | _ => .bad := by first | (rw [ev]; done) | (rw [ev]; rfl)
@[simp] theorem ev_mth (p : P) (a : E) (es : List E) : ev T (.mth p a es) st = (ev T a st).bind fun d s0 => if p.fits d then (evs T es s0).bind fun ds s1 => ofOpt (p.ap (d :: ds)) s1 else .bad := by first | (rw [ev]; done) | (rw [ev]; rfl)
@[simp] theorem ev_gget (i : Nat) (k : Key) : ev T (.gget i k) st = match st.r[i]? with
    | some (.glb j) => match st.g[j]? with
      | some kd => ofOpt (getK kd k) st
      | none => .bad
    | _ => .bad := by first | (rw [ev]; done) | (rw [ev]; rfl)
@[simp] theorem ev_mutl (m : MutK) (i : Nat) (es : List E) : ev T (.mutl m i es) st = match st.r[i]? with
    | some (.own _) => (evs T es st).bind fun ds s1 => match s1.r[i]? with
      | some (.own xs) => match m.ap xs ds with
        | some (d, ys) => .ok d ⟨s1.r.set i (.own ys), s1.g⟩
        | none => .bad
      | _ => .bad
    | _ => .bad := by first | (rw [ev]; done) | (rw [ev]; rfl)
@[simp] theorem evs_nil : evs T [] st = .ok [] st := by first | (rw [evs]; done) | (rw [evs]; rfl)
theorem evs_cons {a : E} {as : List E} (h : a.isOwn = none) : evs T (a :: as) st = (ev T a st).bind fun d s1 => (evs T as s1).bind fun ds s2 => .ok (d :: ds) s2 := by rw [evs, h]
@[simp] theorem evs_own (i : Nat) (as : List E) : evs T (.own i :: as) st = match st.r[i]? with
    | some (.own _) => (evs T as st).bind fun ds s1 => match s1.r[i]? with
      | some (.own xs) => .ok (.lst xs :: ds) s1
      | _ => .bad
    | _ => .bad := by first | (rw [evs]; done) | (rw [evs]; rfl)
@[simp] theorem evp_nil : evp T [] st = .ok none st := by first | (rw [evp]; done) | (rw [evp]; rfl)
@[simp] theorem evp_cons (a : E) (as : List E) : evp T (a :: as) st = (ev T a st).bind fun d s1 => match d with | .int i => .ok (some i) s1 | _ => .bad := by first | (rw [evp]; done) | (rw [evp]; rfl)
@[simp] theorem evt_nil : evt T [] st = .ok true st := by first | (rw [evt]; done) | (rw [evt]; rfl)
@[simp] theorem evt_cons (c : E) (cs : List E) : evt T (c :: cs) st = (ev T c st).bind fun d s1 => match truth d with | some true => evt T cs s1 | some false => .ok false s1 | none => .bad := by first | (rw [evt]; done) | (rw [evt]; rfl)
@[simp] theorem evc_nil : evc T [] st = .ok [] st := by first | (rw [evc]; done) | (rw [evc]; rfl)
@[simp] theorem evc_gv (i : Nat) (as : List E) : evc T (.gv i :: as) st = match st.r[i]? with
    | some (.glb k) => (evc T as st).bind fun ds s1 => .ok (.glb k :: ds) s1
    | _ => .bad := by first | (rw [evc]; done) | (rw [evc]; rfl)
theorem evc_cons {a : E} {as : List E} (h : a.isGv = none) : evc T (a :: as) st = (ev T a st).bind fun d s1 => (evc T as s1).bind fun ds s2 => .ok (.val d :: ds) s2 := by rw [evc, h]
@[simp] theorem evs_var (i : Nat) (as : List E) : evs T (.var i :: as) st = (ev T (.var i) st).bind fun d s1 => (evs T as s1).bind fun ds s2 => .ok (d :: ds) s2 := evs_cons T st rfl
@[simp] theorem evc_var (i : Nat) (as : List E) : evc T (.var i :: as) st = (ev T (.var i) st).bind fun d s1 => (evc T as s1).bind fun ds s2 => .ok (.val d :: ds) s2 := evc_cons T st rfl
@[simp] theorem evs_kint (i : Int) (as : List E) : evs T (.kint i :: as) st = (ev T (.kint i) st).bind fun d s1 => (evs T as s1).bind fun ds s2 => .ok (d :: ds) s2 := evs_cons T st rfl
@[simp] theorem evc_kint (i : Int) (as : List E) : evc T (.kint i :: as) st = (ev T (.kint i) st).bind fun d s1 => (evc T as s1).bind fun ds s2 => .ok (.val d :: ds) s2 := evc_cons T st rfl
@[simp] theorem evs_kstr (x : List Nat) (as : List E) : evs T (.kstr x :: as) st = (ev T (.kstr x) st).bind fun d s1 => (evs T as s1).bind fun ds s2 => .ok (d :: ds) s2 := evs_cons T st rfl
@[simp] theorem evc_kstr (x : List Nat) (as : List E) : evc T (.kstr x :: as) st = (ev T (.kstr x) st).bind fun d s1 => (evc T as s1).bind fun ds s2 => .ok (.val d :: ds) s2 := evc_cons T st rfl
@[simp] theorem evs_kbl (b : Bool) (as : List E) : evs T (.kbl b :: as) st = (ev T (.kbl b) st).bind fun d s1 => (evs T as s1).bind fun ds s2 => .ok (d :: ds) s2 := evs_cons T st rfl
@[simp] theorem evc_kbl (b : Bool) (as : List E) : evc T (.kbl b :: as) st = (ev T (.kbl b) st).bind fun d s1 => (evc T as s1).bind fun ds s2 => .ok (.val d :: ds) s2 := evc_cons T st rfl
@[simp] theorem evs_knon  (as : List E) : evs T (.knon :: as) st = (ev T (.knon) st).bind fun d s1 => (evs T as s1).bind fun ds s2 => .ok (d :: ds) s2 := evs_cons T st rfl
@[simp] theorem evc_knon  (as : List E) : evc T (.knon :: as) st = (ev T (.knon) st).bind fun d s1 => (evc T as s1).bind fun ds s2 => .ok (.val d :: ds) s2 := evc_cons T st rfl
@[simp] theorem evs_glo (x : Str) (d : D) (as : List E) : evs T (.glo x d :: as) st = (ev T (.glo x d) st).bind fun d s1 => (evs T as s1).bind fun ds s2 => .ok (d :: ds) s2 := evs_cons T st rfl
@[simp] theorem evc_glo (x : Str) (d : D) (as : List E) : evc T (.glo x d :: as) st = (ev T (.glo x d) st).bind fun d s1 => (evc T as s1).bind fun ds s2 => .ok (.val d :: ds) s2 := evc_cons T st rfl
@[simp] theorem evs_and (a b : E) (as : List E) : evs T (.and a b :: as) st = (ev T (.and a b) st).bind fun d s1 => (evs T as s1).bind fun ds s2 => .ok (d :: ds) s2 := evs_cons T st rfl
@[simp] theorem evc_and (a b : E) (as : List E) : evc T (.and a b :: as) st = (ev T (.and a b) st).bind fun d s1 => (evc T as s1).bind fun ds s2 => .ok (.val d :: ds) s2 := evc_cons T st rfl
@[simp] theorem evs_or (a b : E) (as : List E) : evs T (.or a b :: as) st = (ev T (.or a b) st).bind fun d s1 => (evs T as s1).bind fun ds s2 => .ok (d :: ds) s2 := evs_cons T st rfl
@[simp] theorem evc_or (a b : E) (as : List E) : evc T (.or a b :: as) st = (ev T (.or a b) st).bind fun d s1 => (evc T as s1).bind fun ds s2 => .ok (.val d :: ds) s2 := evc_cons T st rfl
@[simp] theorem evs_not (a : E) (as : List E) : evs T (.not a :: as) st = (ev T (.not a) st).bind fun d s1 => (evs T as s1).bind fun ds s2 => .ok (d :: ds) s2 := evs_cons T st rfl
@[simp] theorem evc_not (a : E) (as : List E) : evc T (.not a :: as) st = (ev T (.not a) st).bind fun d s1 => (evc T as s1).bind fun ds s2 => .ok (.val d :: ds) s2 := evc_cons T st rfl
@[simp] theorem evs_ite (a b c : E) (as : List E) : evs T (.ite a b c :: as) st = (ev T (.ite a b c) st).bind fun d s1 => (evs T as s1).bind fun ds s2 => .ok (d :: ds) s2 := evs_cons T st rfl
@[simp] theorem evc_ite (a b c : E) (as : List E) : evc T (.ite a b c :: as) st = (ev T (.ite a b c) st).bind fun d s1 => (evc T as s1).bind fun ds s2 => .ok (.val d :: ds) s2 := evc_cons T st rfl
@[simp] theorem evs_prim (p : P) (es : List E) (as : List E) : evs T (.prim p es :: as) st = (ev T (.prim p es) st).bind fun d s1 => (evs T as s1).bind fun ds s2 => .ok (d :: ds) s2 := evs_cons T st rfl
@[simp] theorem evc_prim (p : P) (es : List E) (as : List E) : evc T (.prim p es :: as) st = (ev T (.prim p es) st).bind fun d s1 => (evc T as s1).bind fun ds s2 => .ok (.val d :: ds) s2 := evc_cons T st rfl
@[simp] theorem evs_chain (p q : P) (a b c : E) (as : List E) : evs T (.chain p q a b c :: as) st = (ev T (.chain p q a b c) st).bind fun d s1 => (evs T as s1).bind fun ds s2 => .ok (d :: ds) s2 := evs_cons T st rfl
@[simp] theorem evc_chain (p q : P) (a b c : E) (as : List E) : evc T (.chain p q a b c :: as) st = (ev T (.chain p q a b c) st).bind fun d s1 => (evc T as s1).bind fun ds s2 => .ok (.val d :: ds) s2 := evc_cons T st rfl
@[simp] theorem evs_cut (a : E) (lo hi : List E) (as : List E) : evs T (.cut a lo hi :: as) st = (ev T (.cut a lo hi) st).bind fun d s1 => (evs T as s1).bind fun ds s2 => .ok (d :: ds) s2 := evs_cons T st rfl
@[simp] theorem evc_cut (a : E) (lo hi : List E) (as : List E) : evc T (.cut a lo hi :: as) st = (ev T (.cut a lo hi) st).bind fun d s1 => (evc T as s1).bind fun ds s2 => .ok (.val d :: ds) s2 := evc_cons T st rfl
@[simp] theorem evs_stp (a : E) (lo : List E) (k : Int) (as : List E) : evs T (.stp a lo k :: as) st = (ev T (.stp a lo k) st).bind fun d s1 => (evs T as s1).bind fun ds s2 => .ok (d :: ds) s2 := evs_cons T st rfl
@[simp] theorem evc_stp (a : E) (lo : List E) (k : Int) (as : List E) : evc T (.stp a lo k :: as) st = (ev T (.stp a lo k) st).bind fun d s1 => (evc T as s1).bind fun ds s2 => .ok (.val d :: ds) s2 := evc_cons T st rfl
@[simp] theorem evs_tup (es : List E) (as : List E) : evs T (.tup es :: as) st = (ev T (.tup es) st).bind fun d s1 => (evs T as s1).bind fun ds s2 => .ok (d :: ds) s2 := evs_cons T st rfl
@[simp] theorem evc_tup (es : List E) (as : List E) : evc T (.tup es :: as) st = (ev T (.tup es) st).bind fun d s1 => (evc T as s1).bind fun ds s2 => .ok (.val d :: ds) s2 := evc_cons T st rfl
@[simp] theorem evs_lst (es : List E) (as : List E) : evs T (.lst es :: as) st = (ev T (.lst es) st).bind fun d s1 => (evs T as s1).bind fun ds s2 => .ok (d :: ds) s2 := evs_cons T st rfl
@[simp] theorem evc_lst (es : List E) (as : List E) : evc T (.lst es :: as) st = (ev T (.lst es) st).bind fun d s1 => (evc T as s1).bind fun ds s2 => .ok (.val d :: ds) s2 := evc_cons T st rfl
@[simp] theorem evs_call (k : Nat) (es : List E) (as : List E) : evs T (.call k es :: as) st = (ev T (.call k es) st).bind fun d s1 => (evs T as s1).bind fun ds s2 => .ok (d :: ds) s2 := evs_cons T st rfl
@[simp] theorem evc_call (k : Nat) (es : List E) (as : List E) : evc T (.call k es :: as) st = (ev T (.call k es) st).bind fun d s1 => (evc T as s1).bind fun ds s2 => .ok (.val d :: ds) s2 := evc_cons T st rfl
@[simp] theorem evs_mth (p : P) (a : E) (es : List E) (as : List E) : evs T (.mth p a es :: as) st = (ev T (.mth p a es) st).bind fun d s1 => (evs T as s1).bind fun ds s2 => .ok (d :: ds) s2 := evs_cons T st rfl
@[simp] theorem evc_mth (p : P) (a : E) (es : List E) (as : List E) : evc T (.mth p a es :: as) st = (ev T (.mth p a es) st).bind fun d s1 => (evc T as s1).bind fun ds s2 => .ok (.val d :: ds) s2 := evc_cons T st rfl
@[simp] theorem evs_gget (i : Nat) (k : Key) (as : List E) : evs T (.gget i k :: as) st = (ev T (.gget i k) st).bind fun d s1 => (evs T as s1).bind fun ds s2 => .ok (d :: ds) s2 := evs_cons T st rfl
@[simp] theorem evc_gget (i : Nat) (k : Key) (as : List E) : evc T (.gget i k :: as) st = (ev T (.gget i k) st).bind fun d s1 => (evc T as s1).bind fun ds s2 => .ok (.val d :: ds) s2 := evc_cons T st rfl
@[simp] theorem evs_comp (elt : E) (pt : Pat) (it : ItK) (src cs : List E) (ws : List Nat) (as : List E) : evs T (.comp elt pt it src cs ws :: as) st = (ev T (.comp elt pt it src cs ws) st).bind fun d s1 => (evs T as s1).bind fun ds s2 => .ok (d :: ds) s2 := evs_cons T st rfl
@[simp] theorem evc_comp (elt : E) (pt : Pat) (it : ItK) (src cs : List E) (ws : List Nat) (as : List E) : evc T (.comp elt pt it src cs ws :: as) st = (ev T (.comp elt pt it src cs ws) st).bind fun d s1 => (evc T as s1).bind fun ds s2 => .ok (.val d :: ds) s2 := evc_cons T st rfl
@[simp] theorem evs_mutl (m : MutK) (i : Nat) (es : List E) (as : List E) : evs T (.mutl m i es :: as) st = (ev T (.mutl m i es) st).bind fun d s1 => (evs T as s1).bind fun ds s2 => .ok (d :: ds) s2 := evs_cons T st rfl
@[simp] theorem evc_mutl (m : MutK) (i : Nat) (es : List E) (as : List E) : evc T (.mutl m i es :: as) st = (ev T (.mutl m i es) st).bind fun d s1 => (evc T as s1).bind fun ds s2 => .ok (.val d :: ds) s2 := evc_cons T st rfl
@[simp] theorem bind_ok {α β : Type} (a : α) (s : Sx) (f : α → Sx → Res β) : (Res.ok a s).bind f = f a s := rfl
@[simp] theorem bind_bad {α β : Type} (f : α → Sx → Res β) : (Res.bad : Res α).bind f = .bad := rfl
@[simp] theorem onE_ok {α : Type} (a : α) (s : Sx) (f : α → Sx → SRes) : onE (Res.ok a s) f = f a s := rfl
@[simp] theorem ofOpt_some (d : D) (s : Sx) : ofOpt (some d) s = .ok d s := rfl
@[simp] theorem ofOpt_none (s : Sx) : ofOpt none s = .bad := rfl
@[simp] theorem runs_nil : runs T [] st = .nx st := by first | (rw [runs]; done) | (rw [runs]; rfl)
@[simp] theorem runs_cons (s : S) (ss : List S) : runs T (s :: ss) st = match run T s st with | .nx s1 => runs T ss s1 | r => r := by first | (rw [runs]; done) | (rw [runs]; rfl)
@[simp] theorem run_set (p : Pat) (m : E) : run T (.set p m) st = onE (ev T m st) fun d s => match bindP p d s.r with | some r => .nx ⟨r, s.g⟩ | none => .bad := by first | (rw [run]; done) | (rw [run]; rfl)
@[simp] theorem run_setOwn (i : Nat) (m : E) : run T (.setOwn i m) st = onE (ev T m st) fun d s => match putS true i d s.r with | some r => .nx ⟨r, s.g⟩ | none => .bad := by first | (rw [run]; done) | (rw [run]; rfl)
@[simp] theorem run_gset (i : Nat) (k : Key) (m : E) : run T (.gset i k m) st = onE (ev T m st) fun d s => match s.r[i]? with
    | some (.glb j) => match s.g[j]? with
      | some kd => if kd.length < big then .nx ⟨s.r, s.g.set j (setK kd k d)⟩ else .bad
      | none => .bad
    | _ => .bad := by first | (rw [run]; done) | (rw [run]; rfl)
@[simp] theorem run_par (i j : Nat) (oi oj : Bool) (a b : E) : run T (.par i j oi oj a b) st = onE (ev T a st) fun d s => onE (ev T b s) fun e s2 => match putS oi i d s2.r with
    | some r => match putS oj j e r with
      | some r => .nx ⟨r, s2.g⟩
      | none => .bad
    | none => .bad := by first | (rw [run]; done) | (rw [run]; rfl)
@[simp] theorem run_drop (m : E) : run T (.drop m) st = onE (ev T m st) fun _ s => .nx s := by first | (rw [run]; done) | (rw [run]; rfl)
@[simp] theorem run_ret (m : E) : run T (.ret m) st = onE (ev T m st) fun d s => .ret d s := by first | (rw [run]; done) | (rw [run]; rfl)
@[simp] theorem run_if (c : E) (a b : List S) : run T (.ifS c a b) st = onE (ev T c st) fun d s => match truth d with | some true => runs T a s | some false => runs T b s | none => .bad := by first | (rw [run]; done) | (rw [run]; rfl)
@[simp] theorem run_match (m : E) (cs : List S) : run T (.matchS m cs) st = onE (ev T m st) fun d s => match d with | .str x => runm T x cs s | _ => .bad := by first | (rw [run]; done) | (rw [run]; rfl)
@[simp] theorem runm_nil (x : List Nat) : runm T x [] st = .nx st := by first | (rw [runm]; done) | (rw [runm]; rfl)
@[simp] theorem runm_key (x k : List Nat) (b cs : List S) : runm T x (.caseK k b :: cs) st = if x = k then runs T b st else runm T x cs st := by first | (rw [runm]; done) | (rw [runm]; rfl)
@[simp] theorem runm_def (x : List Nat) (b cs : List S) : runm T x (.caseD b :: cs) st = runs T b st := by first | (rw [runm]; done) | (rw [runm]; rfl)
@[simp] theorem run_freeze (i : Nat) : run T (.freeze i) st = match st.r[i]? with | some (.own xs) => .nx ⟨st.r.set i (.val (.lst xs)), st.g⟩ | _ => .bad := by first | (rw [run]; done) | (rw [run]; rfl)
@[simp] theorem run_retDic (ks : List Key) (es : List E) : run T (.retDic ks es) st = onE (evs T es st) fun ds s => if ks.length = ds.length ∧ ks.length ≤ 15 ∧ ks.Nodup then .retG (ks.zip ds) s else .bad := by first | (rw [run]; done) | (rw [run]; rfl)
@[simp] theorem run_gcall (i k : Nat) (es : List E) : run T (.gcall i k es) st = onE (evc T es st) fun xs s => match T k xs s.g with
    | .retG kd g => if i < s.r.length then .nx ⟨s.r.set i (.glb g.length), g ++ [kd]⟩ else .bad
    | .exc c fs g => .exc c fs ⟨s.r, g⟩
    | _ => .bad := by first | (rw [run]; done) | (rw [run]; rfl)
theorem run_for (p : Pat) (k : ItK) (src : List E) (b : List S) : run T (.forS p k src b) st = onE (evs T src st) fun ds s => match k.get ds with | some xs => loopS (bindP p) (runs T b) xs s | none => .bad := by first | (rw [run]; done) | (rw [run]; rfl)
end
@[simp] theorem ap_e0 (i : Int) (j : Int) : P.ap .add [.int i, .int j] = (some (.int (i + j))) := rfl
@[simp] theorem ap_e1 (b : Bool) (j : Int) : P.ap .add [.bl b, .int j] = (some (.int (bI b + j))) := rfl
@[simp] theorem ap_e2 (i : Int) (b : Bool) : P.ap .add [.int i, .bl b] = (some (.int (i + bI b))) := rfl
@[simp] theorem ap_e3 (x : List Nat) (y : List Nat) : P.ap .add [.str x, .str y] = (if x.length + y.length ≤ big then some (.str (x ++ y)) else none) := rfl
@[simp] theorem ap_e4 (x : List D) (y : List D) : P.ap .add [.tup x, .tup y] = (if x.length + y.length ≤ big then some (.tup (x ++ y)) else none) := rfl
@[simp] theorem ap_e5 (x : List D) (y : List D) : P.ap .add [.lst x, .lst y] = (if x.length + y.length ≤ big then some (.lst (x ++ y)) else none) := rfl
@[simp] theorem ap_e6 (i : Int) (j : Int) : P.ap .sub [.int i, .int j] = (some (.int (i - j))) := rfl
@[simp] theorem ap_e7 (b : Bool) (j : Int) : P.ap .sub [.bl b, .int j] = (some (.int (bI b - j))) := rfl
@[simp] theorem ap_e8 (i : Int) (b : Bool) : P.ap .sub [.int i, .bl b] = (some (.int (i - bI b))) := rfl
@[simp] theorem ap_e9 (i : Int) (j : Int) : P.ap .mul [.int i, .int j] = (if i.natAbs < 2 ^ 64 ∨ j.natAbs < 2 ^ 64 then some (.int (i * j)) else none) := rfl
@[simp] theorem ap_e10 (x : List Nat) (n : Int) : P.ap .mul [.str x, .int n] = (if n.natAbs < big ∧ x.length * n.toNat ≤ big then some (.str (List.replicate n.toNat x).flatten) else none) := rfl
@[simp] theorem ap_e11 (x : List D) (n : Int) : P.ap .mul [.lst x, .int n] = (if n.natAbs < big ∧ x.length * n.toNat ≤ big then some (.lst (List.replicate n.toNat x).flatten) else none) := rfl
@[simp] theorem ap_e12 (i : Int) (j : Int) : P.ap .fdiv [.int i, .int j] = (if j ≠ 0 ∧ j.natAbs < 1073741824 then some (.int (i.fdiv j)) else none) := rfl
@[simp] theorem ap_e13 (i : Int) (j : Int) : P.ap .mod [.int i, .int j] = (if j ≠ 0 then some (.int (i.fmod j)) else none) := rfl
@[simp] theorem ap_e14 (i : Int) (j : Int) : P.ap .pow [.int i, .int j] = (if 0 ≤ j ∧ j ≤ 1000000 ∧ i.natAbs < 2 ^ 64 then some (.int (i ^ j.toNat)) else none) := rfl
@[simp] theorem ap_e15 (i : Int) : P.ap .neg [.int i] = (some (.int (-i))) := rfl
@[simp] theorem ap_e16 (a : D) (b : D) : P.ap .eq [a, b] = ((eqD a b).map .bl) := rfl
@[simp] theorem ap_e17 (a : D) (b : D) : P.ap .ne [a, b] = ((eqD a b).map fun c => .bl (!c)) := rfl
@[simp] theorem ap_e18 (i : Int) (j : Int) : P.ap .lt [.int i, .int j] = (some (.bl (decide (i < j)))) := rfl
@[simp] theorem ap_e19 (i : Int) (j : Int) : P.ap .le [.int i, .int j] = (some (.bl (decide (i ≤ j)))) := rfl
@[simp] theorem ap_e20 (i : Int) (j : Int) : P.ap .gt [.int i, .int j] = (some (.bl (decide (j < i)))) := rfl
@[simp] theorem ap_e21 (i : Int) (j : Int) : P.ap .ge [.int i, .int j] = (some (.bl (decide (j ≤ i)))) := rfl
@[simp] theorem ap_e22 (a : D) (b : D) : P.ap .isin [a, b] = ((inD a b).map .bl) := rfl
@[simp] theorem ap_e23 (a : D) (b : D) : P.ap .notin [a, b] = ((inD a b).map fun c => .bl (!c)) := rfl
@[simp] theorem ap_e24 (a : D) : P.ap .isNone [a] = (some (.bl a.isNon)) := rfl
@[simp] theorem ap_e25 (a : D) : P.ap .notNone [a] = (some (.bl (!a.isNon))) := rfl
@[simp] theorem ap_e26 (ks : List Key) (vs : List D) (k : D) : P.ap .ix [.dct ks vs, k] = (match keyD k with
    | some k => getK (ks.zip vs) k
    | none => none) := rfl
@[simp] theorem ap_ix_tup (xs : List D) (i : Int) : P.ap .ix [.tup xs, .int i] = ixD (.tup xs) i := rfl
@[simp] theorem ap_ix_lst (xs : List D) (i : Int) : P.ap .ix [.lst xs, .int i] = ixD (.lst xs) i := rfl
@[simp] theorem ap_ix_str (xs : List Nat) (i : Int) : P.ap .ix [.str xs, .int i] = ixD (.str xs) i := rfl
@[simp] theorem ap_e27 (xs : List D) : P.ap .len [.tup xs] = (some (.int xs.length)) := rfl
@[simp] theorem ap_e28 (xs : List D) : P.ap .len [.lst xs] = (some (.int xs.length)) := rfl
@[simp] theorem ap_e29 (x : List Nat) : P.ap .len [.str x] = (some (.int x.length)) := rfl
@[simp] theorem ap_e30 (ks : List Key) (_ : List D) (us : List D) : P.ap .len [.dct ks us] = (some (.int ks.length)) := rfl
@[simp] theorem ap_e31 (a : D) (t : Ty) : P.ap (.isa t) [a] = (some (.bl (isTy t a))) := rfl
@[simp] theorem ap_e32 (i : Int) : P.ap .int [.int i] = (some (.int i)) := rfl
@[simp] theorem ap_e33 (b : Bool) : P.ap .int [.bl b] = (some (.int (if b then 1 else 0))) := rfl
@[simp] theorem ap_e34 (xs : List D) : P.ap .tuple [.lst xs] = (some (.tup xs)) := rfl
@[simp] theorem ap_e35 (xs : List D) : P.ap .tuple [.tup xs] = (some (.tup xs)) := rfl
@[simp] theorem ap_e36 (xs : List D) : P.ap .list [.lst xs] = (some (.lst xs)) := rfl
@[simp] theorem ap_e37 (xs : List D) : P.ap .list [.tup xs] = (some (.lst xs)) := rfl
@[simp] theorem ap_e38 (x : List Nat) : P.ap .ord [.str x] = (match x with
    | [c] => some (.int c)
    | _ => none) := rfl
@[simp] theorem ap_e39 (xs : List D) : P.ap .all [.lst xs] = ((boolsD xs).map fun bs => .bl (bs.all id)) := rfl
@[simp] theorem ap_e40 (xs : List D) : P.ap .any [.lst xs] = ((boolsD xs).map fun bs => .bl (bs.any id)) := rfl
@[simp] theorem ap_e41 (d : D) : P.ap .repr [d] = ((reprD d).map .str) := rfl
@[simp] theorem ap_e42 (i : Int) : P.ap .str [.int i] = (if i.natAbs.log2 < 1920 then some (.str (Str.ofString (toString i)).cps.toList) else none) := rfl
@[simp] theorem ap_e43 (b : Bool) : P.ap .str [.bl b] = (some (.str (if b then [84, 114, 117, 101] else [70, 97, 108, 115, 101]))) := rfl
@[simp] theorem ap_e44 (x : List Nat) : P.ap .str [.str x] = (some (.str x)) := rfl
@[simp] theorem ap_e45 (xs : List D) : P.ap .sorted [.lst xs] = ((sortD xs).map .lst) := rfl
@[simp] theorem ap_e46 (i : Int) (j : Int) : P.ap .min [.int i, .int j] = (some (.int (min2 i j))) := rfl
@[simp] theorem ap_e47 (i : Int) (j : Int) (k : Int) : P.ap .min [.int i, .int j, .int k] = (some (.int (min2 (min2 i j) k))) := rfl
@[simp] theorem ap_e48 (i : Int) (j : Int) : P.ap .max [.int i, .int j] = (some (.int (max2 i j))) := rfl
@[simp] theorem ap_e49 (i : Int) (j : Int) (k : Int) : P.ap .max [.int i, .int j, .int k] = (some (.int (max2 (max2 i j) k))) := rfl
@[simp] theorem ap_e50 (i : Int) : P.ap .abs [.int i] = (some (.int (if i < 0 then -i else i))) := rfl
@[simp] theorem ap_e51 (xs : List D) : P.ap .dict [.lst xs] = (if xs.length ≤ big then (pairsD xs).map fun g => .dct ((mergeD [] g).map (·.1)) ((mergeD [] g).map (·.2)) else none) := rfl
@[simp] theorem ap_e52 (ks : List Key) (vs : List D) (k : D) (d : D) : P.ap .get [.dct ks vs, k, d] = ((keyD k).map fun k => (getK (ks.zip vs) k).getD d) := rfl
@[simp] theorem ap_e53 (ks : List Key) (vs : List D) (k : D) : P.ap .get [.dct ks vs, k] = ((keyD k).map fun k => (getK (ks.zip vs) k).getD .non) := rfl
@[simp] theorem ap_e54 (xs : List D) (d : D) : P.ap .index [.lst xs, d] = (if SeqAt.shaped (toP (.lst xs)) && SeqAt.shaped (toP d) then (indexD (toP d) (toPL xs) 0).map fun j => .int j else none) := rfl
@[simp] theorem ap_e55 (x : List Nat) : P.ap .upper [.str x] = (if x.length ≤ 5592405 then some (.str (Txt.upper ⟨x.toArray⟩).cps.toList) else none
) := rfl
@[simp] theorem bindP_nm (i : Nat) (d : D) (r : List Slot) : bindP (.nm i) d r = if i < r.length then some (r.set i (.val d)) else none := by rw [bindP]
@[simp] theorem bindP_tp (ps : List Pat) (ds : List D) (r : List Slot) : bindP (.tp ps) (.tup ds) r = bindPs ps ds r := by rw [bindP]
@[simp] theorem bindPs_nil (r : List Slot) : bindPs [] [] r = some r := by rw [bindPs]
@[simp] theorem bindPs_cons (p : Pat) (ps : List Pat) (d : D) (ds : List D) (r : List Slot) : bindPs (p :: ps) (d :: ds) r = (bindP p d r).bind fun r1 => bindPs ps ds r1 := by rw [bindPs]
@[simp] theorem putS_o (i : Nat) (xs : List D) (r : List Slot) : putS true i (.lst xs) r = if i < r.length then some (r.set i (.own xs)) else none := rfl
@[simp] theorem putS_v (i : Nat) (d : D) (r : List Slot) : putS false i d r = if i < r.length then some (r.set i (.val d)) else none := rfl
theorem take_g (g : List Gd) : g.take g.length = g := List.take_length
/-- a loop by its invariant -/
theorem loop_inv {b : D → List Slot → Option (List Slot)} {f : Sx → SRes} (P : Nat → Sx → Prop) : ∀ (xs : List D) (k : Nat) (s : Sx), P k s → (∀ i x s, xs[i]? = some x → P (k + i) s → ∃ r1 s', b x s.r = some r1 ∧ (f ⟨r1, s.g⟩ = .nx s' ∨ f ⟨r1, s.g⟩ = .ct s') ∧ P (k + i + 1) s') →
    ∃ s', loopS b f xs s = .nx s' ∧ P (k + xs.length) s'
  | [], k, s, h, _ => ⟨s, rfl, h⟩
  | x :: xs, k, s, h, step => by
    obtain ⟨r1, s', h1, h2, h3⟩ := step 0 x s rfl h
    obtain ⟨s2, e, p⟩ := loop_inv (b := b) (f := f) P xs (k + 1) s' h3 fun i y t hy ht => by
      have := step (i + 1) y t (by simpa using hy) (by rw [show k + (i + 1) = k + 1 + i by omega]; exact ht)
      rw [show k + 1 + i + 1 = k + (i + 1) + 1 by omega]
      exact this
    refine ⟨s2, ?_, by rw [List.length_cons, show k + (xs.length + 1) = k + 1 + xs.length by omega]; exact p⟩
    simp only [loopS, h1]
    rcases h2 with h2 | h2 <;> rw [h2] <;> exact e
/-- a comprehension over one name, whose parts leave all as it is -/
theorem comp_one {T : Tbl} {elt : E} {i : Nat} {it : ItK} {src cs : List E} {st s1 : Sx} {ds xs : List D} (keep : D → Bool) (f : D → D) (h1 : evs T src st = .ok ds s1) (h2 : it.get ds = some xs) (hi : i < s1.r.length)
    (hc : ∀ x ∈ xs, evt T cs ⟨s1.r.set i (.val x), s1.g⟩ = .ok (keep x) ⟨s1.r.set i (.val x), s1.g⟩) (he : ∀ x ∈ xs, keep x = true → ev T elt ⟨s1.r.set i (.val x), s1.g⟩ = .ok (f x) ⟨s1.r.set i (.val x), s1.g⟩)
    (hl : xs.length ≤ big) (hb : s1.r[i]? = some .none ∨ ∃ d, s1.r[i]? = some (.val d)) : ev T (.comp elt (.nm i) it src cs [i]) st = .ok (.lst ((xs.filter keep).map f)) s1 := by
  have key : ∀ (ys : List D) (s : Sx), (∀ x ∈ ys, x ∈ xs) → s.g = s1.g → (∀ z, s.r.set i z = s1.r.set i z) → s.r.length = s1.r.length → ∃ s2, compL (bindP (.nm i)) (evt T cs) (ev T elt) [i] ys s = .ok ((ys.filter keep).map f) s2 ∧ s2.g = s1.g ∧ (∀ z, s2.r.set i z = s1.r.set i z) := by
    intro ys
    induction ys with
    | nil => intro s _ h3 h4 _; exact ⟨s, rfl, h3, h4⟩
    | cons y ys ih =>
      intro s hm h3 h4 h5
      have hy : y ∈ xs := hm y (by simp)
      have b1 : bindP (.nm i) y (wipeR s.r [i]) = some (s1.r.set i (.val y)) := by
        have w : wipeR s.r [i] = s.r.set i .none := rfl
        have l : i < (s.r.set i Slot.none).length := by rw [List.length_set, h5]; exact hi
        rw [w, bindP, if_pos l, List.set_set, h4]
      simp only [compL, b1, h3]
      rw [hc y hy]
      simp only [bind_ok]
      obtain ⟨s2, e, g2, r2⟩ := ih ⟨s1.r.set i (.val y), s1.g⟩ (fun x hx => hm x (List.mem_cons_of_mem _ hx)) rfl (fun z => by simp [List.set_set]) (by simp)
      cases hk : keep y with
      | true =>
        rw [if_pos rfl, he y hy hk]
        simp only [bind_ok]
        rw [e]
        exact ⟨s2, by simp [hk], g2, r2⟩
      | false =>
        rw [if_neg (by decide), e]
        exact ⟨s2, by simp [hk], g2, r2⟩
  obtain ⟨s2, e, g2, r2⟩ := key xs s1 (fun _ h => h) rfl (fun _ => rfl) rfl
  rw [ev, h1]
  simp only [bind_ok, h2, e]
  rw [if_pos (by
    rw [List.length_map]
    exact Nat.le_trans (List.length_filter_le _ _) hl)]
  congr 1
  have : backR s1.r [i] s2.r = s1.r := by
    simp only [backR]
    rw [r2]
    rcases hb with hb | ⟨d, hb⟩
    · rw [hb]
      refine List.ext_getElem? fun j => ?_
      by_cases hj : i = j
      · subst hj; rw [List.getElem?_set_self hi, hb]
      · rw [List.getElem?_set_ne hj]
    · rw [hb]
      refine List.ext_getElem? fun j => ?_
      by_cases hj : i = j
      · subst hj; rw [List.getElem?_set_self hi, hb]
      · rw [List.getElem?_set_ne hj]
  rw [this, g2]
end Rf

set_option Elab.async false
set_option linter.all false
set_option maxRecDepth 100000
set_option maxHeartbeats 4000000
namespace Rf
open PySem PySem.Spec PyProof.Rows L2

/-! ### how long a repr is at most -/
mutual
def wD : D → Nat
  | .non => 4
  | .bl _ => 5
  | .int _ => 1921
  | .str x => 10 * x.length + 2
  | .tup xs => wL xs + 2 * xs.length + 3
  | .lst xs => wL xs + 2 * xs.length + 3
  | .dct _ _ => 0
def wL : List D → Nat
  | [] => 0
  | x :: xs => wD x + wL xs
end
/-- data that may be shown: texts of characters, ints of less than 1920 bits, no dicts -/
def fine (d : D) : Bool := (toP d).canLay0 && (toP d).showable
mutual
theorem shown_len : ∀ d : D, (toP d).canLay0 = true → (toP d).showable = true → (toP d).shown.length ≤ wD d
  | .non, _, _ => by simp only [toP, PyData.shown, wD]; decide
  | .bl b, _, _ => by cases b <;> simp only [toP, PyData.shown, wD] <;> decide
  | .int i, _, h => by
    simp only [toP, PyData.showable, decide_eq_true_eq] at h
    simp only [toP, PyData.shown, wD]
    exact PyProof.Rows.int_text_len_1921 h
  | .str x, h, _ => by
    simp only [toP, PyData.canLay0, PyData.strOk, Array.all_eq_true', List.mem_toArray, decide_eq_true_eq] at h
    simp only [toP, PyData.shown, wD]
    have := PySem.StrLaws.reprText_len ⟨x.toArray⟩ (fun c hc => Nat.lt_of_lt_of_le (h c (by simpa using hc)) (by decide))
    rw [str_len] at this
    exact this
  | .tup xs, h, h2 => by
    simp only [toP, PyData.canLay0, PyData.showable] at h h2
    simp only [toP, PyData.shown, wD]
    obtain ⟨q1, q2⟩ := shownL_len xs h h2
    have := tupleText_len_le (PyData.shownAll (toPL xs))
    omega
  | .lst xs, h, h2 => by
    simp only [toP, PyData.canLay0, PyData.showable] at h h2
    simp only [toP, PyData.shown, wD]
    obtain ⟨q1, q2⟩ := shownL_len xs h h2
    have := listText_len_le (PyData.shownAll (toPL xs))
    omega
  | .dct _ _, h, _ => by simp [toP, PyData.canLay0] at h
theorem shownL_len : ∀ xs : List D, PyData.canLayAll0 (toPL xs) = true → PyData.showableAll (toPL xs) = true → ((PyData.shownAll (toPL xs)).map (·.length)).sum ≤ wL xs ∧ (PyData.shownAll (toPL xs)).length = xs.length
  | [], _, _ => by simp [toPL, PyData.shownAll, wL]
  | x :: xs, h, h2 => by
    simp only [toPL, PyData.canLayAll0, PyData.showableAll, Bool.and_eq_true] at h h2
    obtain ⟨q1, q2⟩ := shownL_len xs h.2 h2.2
    have := shown_len x h.1 h2.1
    simp only [toPL, PyData.shownAll, List.map_cons, List.sum_cons, List.length_cons, wL, q2]
    exact ⟨by omega, trivial⟩
end
theorem repr_some {d : D} (h1 : (toP d).canLay0 = true) (h2 : (toP d).showable = true) (h3 : (toP d).depth ≤ 30) (h4 : wD d ≤ big) : ∃ r, reprD d = some r := by
  unfold reprD
  have := shown_len d h1 h2
  rw [if_pos (by simp [h1, h2, h3]; omega)]
  exact ⟨_, rfl⟩
theorem eqD_str (x y : List Nat) : eqD (.str x) (.str y) = some (decide (x = y)) := rfl
theorem eqD_int (x y : Int) : eqD (.int x) (.int y) = some (decide (x = y)) := rfl
end Rf

set_option Elab.async false
set_option linter.all false
set_option maxRecDepth 100000
set_option maxHeartbeats 4000000
namespace Rf
open PySem PySem.Spec PyProof.Rows L2

/-! ### the draws and books that the laws share -/
def hFeed : Def := ⟨"_law_feed", ["_law_script"], ["_law_script"], [.retDic [(.inr "cells"), (.inr "at"), (.inr "left"), (.inr "count")] [(.prim .list [(.cut (.var 0) [] [(.kint 63)])]), (.kint 0), (.kint 0), (.kint 0)]]⟩
def hDraw : Def := ⟨"_law_draw", ["_law_feed_here", "_law_many"], ["_law_feed_here", "_law_many", "_law_at", "_law_cell", "_law_mixed", "_law_digit"], [.gset 0 (.inr "count") (.prim .add [(.gget 0 (.inr "count")), (.kint 1)]), .ifS (.prim .gt [(.gget 0 (.inr "left")), (.kint 0)]) [.set (.nm 5) (.prim .mod [(.prim .int [(.gget 0 (.inr "left"))]), (.var 1)]), .gset 0 (.inr "left") (.prim .fdiv [(.gget 0 (.inr "left")), (.var 1)]), .ret (.var 5)] [], .set (.nm 2) (.gget 0 (.inr "at")), .gset 0 (.inr "at") (.prim .add [(.var 2), (.kint 1)]), .set (.nm 3) (.ite (.prim .ne [(.gget 0 (.inr "cells")), (.lst [])]) (.prim .ix [(.gget 0 (.inr "cells")), (.prim .mod [(.prim .int [(.var 2)]), (.prim .len [(.gget 0 (.inr "cells"))])])]) (.kint 71)), .ifS (.and (.prim .ge [(.var 3), (.prim .pow [(.kint 10), (.kint 18)])]) (.prim .lt [(.var 2), (.prim .len [(.gget 0 (.inr "cells"))])])) [.gset 0 (.inr "left") (.prim .fdiv [(.var 3), (.var 1)]), .ret (.prim .mod [(.prim .int [(.var 3)]), (.var 1)])] [], .set (.nm 4) (.prim .mod [(.prim .int [(.prim .add [(.prim .add [(.prim .mod [(.prim .int [(.var 3)]), (.kint 1000000289)]), (.prim .mul [(.kint 140009), (.gget 0 (.inr "count"))])]), (.kint 73)])]), (.kint 2147483269)]), .set (.nm 4) (.prim .mod [(.prim .int [(.prim .add [(.prim .add [(.prim .mul [(.var 4), (.var 4)]), (.prim .mul [(.kint 4300007), (.gget 0 (.inr "count"))])]), (.kint 37)])]), (.kint 2147483249)]), .ret (.prim .mod [(.prim .int [(.prim .fdiv [(.prim .mod [(.prim .int [(.prim .add [(.prim .mul [(.var 4), (.var 4)]), (.prim .mul [(.kint 103), (.var 4)])])]), (.kint 2147483237)]), (.kint 16)])]), (.var 1)])]⟩
def hBook (kd : Nat) : Def := ⟨"_law_book", ["_law_feed_here", "_law_size"], ["_law_feed_here", "_law_size", "_law_menus", "_law_spots", "_law_caps", "_law_names", "_law_pool", "_law_name", "_law_found", "_law_k", "_law_rows_in", "_law_late", "_law_most", "_law_own"], [.setOwn 2 (.lst [(.tup [(.tup [(.kstr [115, 104, 101, 108, 102]), (.kint 3), (.kint 9)]), (.tup [(.kstr [115, 116, 111, 114, 101]), (.kint 8), (.kint 20)])]), (.tup [(.tup [(.kstr [97]), (.kint 0), (.kint 4)])]), (.tup [(.tup [(.kstr [98]), (.kint 1), (.kint 5)]), (.tup [(.kstr [99, 111, 117, 110, 116]), (.kint 2), (.kint 2)]), (.tup [(.kstr [109, 111, 118, 101]), (.kint 0), (.kint 7)])])]), .drop (.mutl .append 2 [(.tup [(.tup [(.kstr [112]), (.kint 0), (.kint 1)]), (.tup [(.kstr [113]), (.kint 5), (.kint 5)]), (.tup [(.kstr [114]), (.kint 2), (.kint 6)]), (.tup [(.kstr [122, 122, 122, 122, 122, 122, 122, 122]), (.kint 19), (.kint 20)])])]), .freeze 2, .set (.nm 3) (.prim .ix [(.var 2), (.call kd [(.gv 0), (.kint 4)])]), .set (.nm 4) (.prim .dict [(.comp (.tup [(.prim .ix [(.var 13), (.kint 0)]), (.prim .ix [(.var 13), (.kint 2)])]) (.nm 13) .seq [(.var 3)] [] [13])]), .par 5 6 false true (.prim .add [(.comp (.prim .ix [(.var 13), (.kint 0)]) (.nm 13) .seq [(.var 3)] [] [13]), (.lst [(.kstr [111, 117, 116])])]) (.lst []), .forS (.nm 7) .seq [(.var 5)] [.drop (.mutl .extend 6 [(.comp (.tup [(.var 7), (.var 11)]) (.nm 11) .seq [(.var 5)] [(.prim .ne [(.var 11), (.var 7)])] [11])])], .setOwn 8 (.lst []), .forS (.nm 9) .rng [(.prim .min [(.prim .len [(.own 6)]), (.call kd [(.gv 0), (.kint 6)])])] [.drop (.mutl .append 8 [(.prim .add [(.mutl .pop 6 [(.call kd [(.gv 0), (.prim .len [(.own 6)])])]), (.tup [(.prim .add [(.kint 1), (.call kd [(.gv 0), (.kint 9)])])])])])], .freeze 8, .freeze 6, .setOwn 10 (.lst []), .forS (.nm 9) .rng [(.var 1)] [.set (.nm 7) (.prim .ix [(.var 5), (.call kd [(.gv 0), (.prim .len [(.var 5)])])]), .set (.nm 11) (.prim .ix [(.var 5), (.prim .mod [(.prim .int [(.prim .add [(.prim .add [(.mth .index (.var 5) [(.var 7)]), (.kint 1)]), (.call kd [(.gv 0), (.prim .sub [(.prim .len [(.var 5)]), (.kint 1)])])])]), (.prim .len [(.var 5)])])]), .set (.nm 12) (.prim .min [(.mth .get (.var 4) [(.var 7), (.kint 5)]), (.mth .get (.var 4) [(.var 11), (.kint 5)]), (.kint 5)]), .ifS (.or (.prim .gt [(.call kd [(.gv 0), (.kint 2)]), (.kint 0)]) (.prim .eq [(.var 7), (.kstr [111, 117, 116])])) [.drop (.mutl .append 10 [(.tup [(.kstr [109, 111, 118, 101]), (.var 7), (.var 11), (.prim .add [(.kint 1), (.call kd [(.gv 0), (.var 12)])])])])] [.drop (.mutl .append 10 [(.tup [(.kstr [99, 111, 117, 110, 116]), (.var 7), (.call kd [(.gv 0), (.prim .add [(.prim .ix [(.var 4), (.var 7)]), (.kint 1)])])])])]], .freeze 10, .ret (.tup [(.var 3), (.prim .tuple [(.prim .sorted [(.var 8)])]), (.prim .ix [(.lst [.knon, (.kint 4), (.kint 1), (.kint 9)]), (.call kd [(.gv 0), (.kint 4)])]), (.prim .tuple [(.var 10)])])]⟩
def hOdd (kd : Nat) : Def := ⟨"_law_odd", ["_law_feed_here"], ["_law_feed_here", "_law_odd_here"], [.set (.nm 1) (.lst [.knon, (.kbl true), (.kbl false), (.kint 0), (.prim .neg [(.kint 1)]), (.kint 1), (.kstr []), (.kstr [111, 117, 116]), (.kstr [115, 104, 101, 108, 102]), (.kstr [109, 111, 118, 101]), (.tup []), (.lst []), (.tup [(.kstr [97]), (.kint 0), (.kint 1)]), (.tup [(.kstr [99, 111, 117, 110, 116]), (.kstr [97]), (.kint 0)]), (.kint 5), (.tup [(.kstr [97])])]), .ret (.prim .ix [(.var 1), (.call kd [(.gv 0), (.kint 16)])])]⟩
def hBent (kd ko kb : Nat) : Def := ⟨"_law_bent", ["_law_feed_here", "_law_item"], ["_law_feed_here", "_law_item", "_law_way", "_law_at", "_law_some"], [.ifS (.and (.prim (.isa .tuple) [(.var 1)]) (.and (.prim .ne [(.var 1), (.tup [])]) (.prim .gt [(.call kd [(.gv 0), (.kint 6)]), (.kint 0)]))) [.set (.nm 3) (.call kd [(.gv 0), (.prim .len [(.var 1)])]), .ret (.prim .add [(.prim .add [(.cut (.var 1) [] [(.var 3)]), (.tup [(.call kb [(.gv 0), (.prim .ix [(.var 1), (.var 3)])])])]), (.cut (.var 1) [(.prim .add [(.var 3), (.kint 1)])] [])])] [], .set (.nm 2) (.call kd [(.gv 0), (.kint 9)]), .ifS (.and (.prim (.isa .tuple) [(.var 1)]) (.prim .lt [(.var 2), (.kint 7)])) [.set (.nm 4) (.lst [(.prim .list [(.var 1)]), (.cut (.var 1) [(.kint 1)] []), (.cut (.var 1) [] [(.prim .neg [(.kint 1)])]), (.prim .add [(.var 1), (.cut (.var 1) [(.prim .neg [(.kint 1)])] [])])]), .ret (.prim .ix [(.prim .add [(.var 4), (.lst [(.stp (.var 1) [] (-1)), (.tup [(.var 1)]), (.prim .add [(.var 1), (.tup [.knon])])])]), (.var 2)])] [], .ifS (.and (.prim (.isa .str) [(.var 1)]) (.prim .lt [(.var 2), (.kint 6)])) [.ret (.prim .ix [(.lst [(.prim .add [(.var 1), (.kstr [97])]), (.cut (.var 1) [] [(.prim .neg [(.kint 1)])]), (.mth .upper (.var 1) []), (.prim .add [(.var 1), (.kstr [32])]), (.lst [(.var 1)]), (.prim .add [(.var 1), (.kstr [97, 98, 99, 100, 101, 102, 103, 104])])]), (.var 2)])] [], .ifS (.and (.prim (.isa .int) [(.var 1)]) (.prim .lt [(.var 2), (.kint 6)])) [.ret (.prim .ix [(.lst [(.prim .add [(.var 1), (.kint 1)]), (.prim .sub [(.var 1), (.kint 1)]), (.prim .eq [(.var 1), (.kint 1)]), (.prim .str [(.var 1)]), (.prim .sub [(.kint 0), (.var 1)]), (.lst [(.var 1)])]), (.var 2)])] [], .ret (.call ko [(.gv 0)])]⟩
/-- what a feed holds -/
def fdOf (cells : List Int) (at' left count : Int) : Gd := [(.inr "cells", .lst (cells.map .int)), (.inr "at", .int at'), (.inr "left", .int left), (.inr "count", .int count)]
def Fd (kd : Gd) : Prop := ∃ cells a l c, kd = fdOf cells a l c ∧ 0 ≤ l
theorem ints_shaped : ∀ (x : List Int), PyData.canLayAll0 (toPL (x.map D.int)) = true ∧ PyData.depthAll (toPL (x.map D.int)) = 0
  | [] => by simp [toPL, PyData.canLayAll0, PyData.depthAll]
  | c :: x => by
    obtain ⟨h1, h2⟩ := ints_shaped x
    simp [toPL, toP, PyData.canLayAll0, PyData.depthAll, PyData.canLay0, PyData.depth, h1, h2]
theorem eqD_nilL {xs : List D} (h : SeqAt.shaped (toP (.lst xs)) = true) : eqD (.lst xs) (.lst []) = some xs.isEmpty := by
  have e : PyData.eqv (toP (.lst xs)) (toP (.lst [])) = xs.isEmpty := by cases xs <;> simp [toP, toPL, PyData.eqv, PyData.eqvAll]
  have s : SeqAt.shaped (toP (.lst [])) = true := rfl
  show (if SeqAt.shaped (toP (.lst xs)) && SeqAt.shaped (toP (.lst [])) then _ else _) = _
  rw [h, s, if_pos (by decide), e]
theorem cells_ne (x : List Int) : eqD (.lst (x.map D.int)) (.lst []) = some x.isEmpty := by
  obtain ⟨h1, h2⟩ := ints_shaped x
  have := eqD_nilL (xs := x.map D.int) (by simp [SeqAt.shaped, toP, PyData.canLay0, PyData.depth, h1, h2])
  rw [this]; cases x <;> rfl
theorem fmod_lt {a b : Int} (h : 0 < b) : 0 ≤ a.fmod b ∧ a.fmod b < b := ⟨Int.fmod_nonneg_of_pos a h, Int.fmod_lt_of_pos a h⟩
theorem get_cells (c : List Int) (a l k : Int) : getK (fdOf c a l k) (.inr "cells") = some (.lst (c.map .int)) := by simp [getK, fdOf]
theorem get_at (c : List Int) (a l k : Int) : getK (fdOf c a l k) (.inr "at") = some (.int a) := by
  have : ¬ ("cells" : Str) = "at" := by decide +kernel
  simp [getK, fdOf, List.find?_cons, this]
theorem get_left (c : List Int) (a l k : Int) : getK (fdOf c a l k) (.inr "left") = some (.int l) := by
  have h1 : ¬ ("cells" : Str) = "left" := by decide +kernel
  have h2 : ¬ ("at" : Str) = "left" := by decide +kernel
  simp [getK, fdOf, List.find?_cons, h1, h2]
theorem get_count (c : List Int) (a l k : Int) : getK (fdOf c a l k) (.inr "count") = some (.int k) := by
  have h1 : ¬ ("cells" : Str) = "count" := by decide +kernel
  have h2 : ¬ ("at" : Str) = "count" := by decide +kernel
  have h3 : ¬ ("left" : Str) = "count" := by decide +kernel
  simp [getK, fdOf, List.find?_cons, h1, h2, h3]
theorem set_at (c : List Int) (a l k x : Int) : setK (fdOf c a l k) (.inr "at") (.int x) = fdOf c x l k := by
  have h1 : ¬ ("cells" : Str) = "at" := by decide +kernel
  have h2 : ¬ ("left" : Str) = "at" := by decide +kernel
  have h3 : ¬ ("count" : Str) = "at" := by decide +kernel
  simp [setK, fdOf, h1, h2, h3]
theorem set_left (c : List Int) (a l k x : Int) : setK (fdOf c a l k) (.inr "left") (.int x) = fdOf c a x k := by
  have h1 : ¬ ("cells" : Str) = "left" := by decide +kernel
  have h2 : ¬ ("at" : Str) = "left" := by decide +kernel
  have h3 : ¬ ("count" : Str) = "left" := by decide +kernel
  simp [setK, fdOf, h1, h2, h3]
theorem set_count (c : List Int) (a l k x : Int) : setK (fdOf c a l k) (.inr "count") (.int x) = fdOf c a l x := by
  have h1 : ¬ ("cells" : Str) = "count" := by decide +kernel
  have h2 : ¬ ("at" : Str) = "count" := by decide +kernel
  have h3 : ¬ ("left" : Str) = "count" := by decide +kernel
  simp [setK, fdOf, h1, h2, h3]
theorem fd_len (c : List Int) (a l k : Int) : (fdOf c a l k).length < big := by
  have hb : (big : Nat) = 16777216 := rfl
  show 4 < big
  omega
theorem cell_get (c : List Int) (a : Int) (h : c.isEmpty = false) : ∃ v, ixD (.lst (c.map .int)) (a.fmod c.length) = some (.int v) := by
  have hl : 0 < (c.length : Int) := by
    cases c with
    | nil => simp at h
    | cons x xs => simp only [List.length_cons]; omega
  obtain ⟨h1, h2⟩ := fmod_lt (a := a) hl
  generalize a.fmod c.length = i at h1 h2
  have hn : i.toNat < c.length := by omega
  refine ⟨c[i.toNat], ?_⟩
  have e1 : ixN (c.map D.int).length i = some i.toNat := by
    unfold ixN
    rw [List.length_map]
    simp [h1]
    omega
  simp only [ixD, atI, e1]
  simp [hn]
theorem nb1 (x : Int) : (x.fmod 2147483269).natAbs < 18446744073709551616 := by
  obtain ⟨h1, h2⟩ := fmod_lt (a := x) (b := 2147483269) (by decide)
  omega
theorem nb2 (x : Int) : (x.fmod 2147483249).natAbs < 18446744073709551616 := by
  obtain ⟨h1, h2⟩ := fmod_lt (a := x) (b := 2147483249) (by decide)
  omega
def mx1 (cell k : Int) : Int := (cell.fmod 1000000289 + 140009 * k + 73).fmod 2147483269
def mx2 (cell k : Int) : Int := (mx1 cell k * mx1 cell k + 4300007 * k + 37).fmod 2147483249
def mx3 (cell k : Int) : Int := ((mx2 cell k * mx2 cell k + 103 * mx2 cell k).fmod 2147483237).fdiv 16
/-- a draw: a digit below many, and a feed -/
theorem draw_ok (T : Tbl) {g : List Gd} {j : Nat} {kd : Gd} {many : Int} (h : g[j]? = some kd) (hf : Fd kd) (h1 : 0 < many) (h2 : many < 1073741824) : ∃ r kd', 0 ≤ r ∧ r < many ∧ Fd kd' ∧ mirror T hDraw [.glb j, .val (.int many)] g = .ret (.int r) (g.set j kd') := by
  obtain ⟨c, a, l, k, rfl, hl⟩ := hf
  have hj : j < g.length := (List.getElem?_eq_some_iff.mp h).1
  have n0 : many ≠ 0 := by omega
  have nb : many.natAbs < 1073741824 := by omega
  have tk : ∀ x : Gd, (g.set j x).take g.length = g.set j x := fun x => by rw [List.take_of_length_le (by simp)]
  have gs : ∀ x : Gd, (g.set j x)[j]? = some x := fun x => List.getElem?_set_self hj
  by_cases hp : 0 < l
  · refine ⟨l.fmod many, fdOf c a (l.fdiv many) (k + 1), (fmod_lt h1).1, (fmod_lt h1).2, ⟨c, a, _, _, rfl, Int.fdiv_nonneg hl (by omega)⟩, ?_⟩
    simp [mirror, hDraw, h, get_count, set_count, get_left, set_left, fd_len, truth, hp, n0, nb, cutG, tk, gs, List.set_set]
  · have go : ∀ cell : Int, (∀ st : Sx, st.g = g.set j (fdOf c (a + 1) l (k + 1)) → st.r = [.glb j, .val (.int many), .val (.int a), .none, .none, .none] → ev T (.ite (.prim .ne [(.gget 0 (.inr "cells")), (.lst [])]) (.prim .ix [(.gget 0 (.inr "cells")), (.prim .mod [(.prim .int [(.var 2)]), (.prim .len [(.gget 0 (.inr "cells"))])])]) (.kint 71)) st = .ok (.int cell) st) →
        ∃ r kd', 0 ≤ r ∧ r < many ∧ Fd kd' ∧ mirror T hDraw [.glb j, .val (.int many)] g = .ret (.int r) (g.set j kd') := by
      intro cell hev
      have hev := hev ⟨[.glb j, .val (.int many), .val (.int a), .none, .none, .none], g.set j (fdOf c (a + 1) l (k + 1))⟩ rfl rfl
      by_cases hb : 1000000000000000000 ≤ cell
      · by_cases hc : a < c.length
        · refine ⟨cell.fmod many, fdOf c (a + 1) (cell.fdiv many) (k + 1), (fmod_lt h1).1, (fmod_lt h1).2, ⟨c, _, _, _, rfl, Int.fdiv_nonneg (by omega) (by omega)⟩, ?_⟩
          simp [-ev_ite, mirror, hDraw, h, get_count, set_count, get_left, set_left, get_at, set_at, get_cells, fd_len, truth, hp, n0, nb, cutG, tk, gs, List.set_set, hev, hb, hc]
        · refine ⟨(mx3 cell (k + 1)).fmod many, fdOf c (a + 1) l (k + 1), (fmod_lt h1).1, (fmod_lt h1).2, ⟨c, _, _, _, rfl, hl⟩, ?_⟩
          · simp [-ev_ite, mirror, hDraw, h, get_count, set_count, get_left, set_left, get_at, set_at, get_cells, fd_len, truth, hp, n0, nb, cutG, tk, gs, List.set_set, hev, hb, hc, nb1, nb2, mx1, mx2, mx3]
      · refine ⟨(mx3 cell (k + 1)).fmod many, fdOf c (a + 1) l (k + 1), (fmod_lt h1).1, (fmod_lt h1).2, ⟨c, _, _, _, rfl, hl⟩, ?_⟩
        · simp [-ev_ite, mirror, hDraw, h, get_count, set_count, get_left, set_left, get_at, set_at, get_cells, fd_len, truth, hp, n0, nb, cutG, tk, gs, List.set_set, hev, hb, nb1, nb2, mx1, mx2, mx3]
    cases hc : c.isEmpty with
    | true =>
      refine go 71 fun st eg er => ?_
      have : c = [] := List.isEmpty_iff.mp hc
      subst this
      have e0 : eqD (.lst []) (.lst []) = some true := rfl
      simp [er, eg, gs, get_cells, e0, truth]
    | false =>
      obtain ⟨v, hv⟩ := cell_get c a hc
      refine go v fun st eg er => ?_
      have cn : (c.length : Int) ≠ 0 := by
        cases c with
        | nil => simp at hc
        | cons x xs => simp only [List.length_cons]; omega
      have e1 := cells_ne c
      rw [hc] at e1
      have cn2 : ¬ c = [] := fun z => by rw [z] at hc; cases hc
      simp [er, eg, gs, get_cells, e1, truth, cn2, hv]
end Rf

set_option Elab.async false
set_option linter.all false
set_option maxRecDepth 100000
set_option maxHeartbeats 4000000
namespace Rf
open PySem PySem.Spec PyProof.Rows L2

/-! ### small data -/
def Sc (s : Nat) : D → Prop
  | .non => True
  | .bl _ => True
  | .int i => i.natAbs ≤ s
  | .str x => x.length ≤ s ∧ ∀ c ∈ x, c < 128
  | _ => False
def Sm : Nat → Nat → Nat → D → Prop
  | 0, s, _, d => Sc s d
  | k + 1, s, m, d => Sc s d ∨ ∃ xs, (d = .tup xs ∨ d = .lst xs) ∧ xs.length ≤ m ∧ ∀ a ∈ xs, Sm k s m a
theorem Sc.mono {s s' : Nat} (h : s ≤ s') {d : D} (q : Sc s d) : Sc s' d := by
  cases d <;> simp only [Sc] at q ⊢ <;> try exact q
  · omega
  · exact ⟨by omega, q.2⟩
theorem Sm.mono : ∀ {k k' s s' m m' : Nat} {d : D}, k ≤ k' → s ≤ s' → m ≤ m' → Sm k s m d → Sm k' s' m' d
  | 0, 0, _, _, _, _, _, _, h2, _, q => Sc.mono h2 q
  | 0, _ + 1, _, _, _, _, _, _, h2, _, q => .inl (Sc.mono h2 q)
  | _ + 1, 0, _, _, _, _, _, h1, _, _, _ => by omega
  | k + 1, k' + 1, _, _, _, _, _, h1, h2, h3, q => by
    rcases q with q | ⟨xs, q1, q2, q3⟩
    · exact .inl (Sc.mono h2 q)
    · exact .inr ⟨xs, q1, by omega, fun a ha => Sm.mono (by omega) h2 h3 (q3 a ha)⟩
/-- what small data weighs at most -/
def wB (s m : Nat) : Nat → Nat
  | 0 => 10 * s + 1930
  | k + 1 => m * wB s m k + 2 * m + 3 + 10 * s + 1930
theorem wL_le {B : Nat} : ∀ {xs : List D}, (∀ a ∈ xs, wD a ≤ B) → wL xs ≤ xs.length * B
  | [], _ => by simp [wL]
  | x :: xs, h => by
    have h1 := h x (by simp)
    have h2 := wL_le fun a ha => h a (List.mem_cons_of_mem _ ha)
    simp only [wL, List.length_cons, Nat.add_mul]
    omega
theorem all_lay : ∀ {xs : List D}, (∀ a ∈ xs, (toP a).canLay0 = true ∧ (toP a).showable = true) → PyData.canLayAll0 (toPL xs) = true ∧ PyData.showableAll (toPL xs) = true
  | [], _ => by simp [toPL, PyData.canLayAll0, PyData.showableAll]
  | x :: xs, h => by
    obtain ⟨h1, h2⟩ := all_lay fun a ha => h a (List.mem_cons_of_mem _ ha)
    obtain ⟨h3, h4⟩ := h x (by simp)
    simp [toPL, PyData.canLayAll0, PyData.showableAll, h1, h2, h3, h4]
theorem all_depth {B : Nat} : ∀ {xs : List D}, (∀ a ∈ xs, (toP a).depth ≤ B) → PyData.depthAll (toPL xs) ≤ B
  | [], _ => by simp [toPL, PyData.depthAll]
  | x :: xs, h => by
    have h1 := all_depth fun a ha => h a (List.mem_cons_of_mem _ ha)
    have h2 := h x (by simp)
    simp only [toPL, PyData.depthAll]
    omega
theorem Sc.good {s : Nat} (hs : s ≤ 1000000) {d : D} (q : Sc s d) : (toP d).canLay0 = true ∧ (toP d).showable = true ∧ (toP d).depth = 0 ∧ wD d ≤ 10 * s + 1930 := by
  cases d with
  | non => simp [toP, PyData.canLay0, PyData.showable, PyData.depth, wD]
  | bl b => simp [toP, PyData.canLay0, PyData.showable, PyData.depth, wD]
  | int i =>
    simp only [Sc] at q
    have : i.natAbs.log2 < 1920 := by
      by_cases z : i.natAbs = 0
      · rw [z]; decide
      · have h20 : i.natAbs.log2 < 20 := by
          rw [Nat.log2_lt z]
          have : (1000000 : Nat) < 2 ^ 20 := by decide
          omega
        omega
    simp [toP, PyData.canLay0, PyData.showable, PyData.depth, wD, this]
  | str x =>
    simp only [Sc] at q
    have : PyData.strOk ⟨x.toArray⟩ = true := by
      simp only [PyData.strOk, Array.all_eq_true', List.mem_toArray, decide_eq_true_eq]
      exact fun c hc => Nat.lt_trans (q.2 c hc) (by decide)
    simp [toP, PyData.canLay0, PyData.showable, PyData.depth, wD, this]
    omega
  | _ => exact q.elim
theorem Sm.good {s m : Nat} (hs : s ≤ 1000000) : ∀ {k : Nat} {d : D}, Sm k s m d → (toP d).canLay0 = true ∧ (toP d).showable = true ∧ (toP d).depth ≤ k ∧ wD d ≤ wB s m k
  | 0, d, q => by
    obtain ⟨h1, h2, h3, h4⟩ := Sc.good hs q
    exact ⟨h1, h2, by omega, h4⟩
  | k + 1, d, q => by
    rcases q with q | ⟨xs, q1, q2, q3⟩
    · obtain ⟨h1, h2, h3, h4⟩ := Sc.good hs q
      exact ⟨h1, h2, by omega, by simp only [wB]; omega⟩
    · have ih := fun a ha => Sm.good hs (q3 a ha)
      obtain ⟨l1, l2⟩ := all_lay fun a ha => ⟨(ih a ha).1, (ih a ha).2.1⟩
      have l3 := all_depth (B := k) fun a ha => (ih a ha).2.2.1
      have l4 := wL_le (B := wB s m k) fun a ha => (ih a ha).2.2.2
      have l5 : xs.length * wB s m k ≤ m * wB s m k := Nat.mul_le_mul_right _ q2
      rcases q1 with rfl | rfl
      · simp only [toP, PyData.canLay0, PyData.showable, PyData.depth, wD, wB]
        exact ⟨l1, l2, by omega, by omega⟩
      · simp only [toP, PyData.canLay0, PyData.showable, PyData.depth, wD, wB]
        exact ⟨l1, l2, by omega, by omega⟩
/-! ### parts of lists -/
theorem cut_to {α : Type} (xs : List α) {i : Int} (h1 : 0 ≤ i) (h2 : i ≤ xs.length) : cutL xs none (some i) = xs.take i.toNat := by
  have e1 : HT.sIx xs.length 0 none = 0 := rfl
  have e2 : HT.sIx xs.length xs.length (some i) = i.toNat := by
    unfold HT.sIx
    simp only
    rw [if_neg (by omega)]
    omega
  unfold cutL
  rw [e1, e2]
  simp
theorem cut_from {α : Type} (xs : List α) {i : Int} (h1 : 0 ≤ i) (h2 : i ≤ xs.length) : cutL xs (some i) none = xs.drop i.toNat := by
  have e1 : HT.sIx xs.length 0 (some i) = i.toNat := by
    unfold HT.sIx
    simp only
    rw [if_neg (by omega)]
    omega
  have e2 : HT.sIx xs.length xs.length none = xs.length := rfl
  unfold cutL
  rw [e1, e2, List.take_of_length_le (by simp)]
theorem cut_last {α : Type} (xs : List α) : cutL xs none (some (-1)) = xs.take (xs.length - 1) := by
  have e1 : HT.sIx xs.length 0 none = 0 := rfl
  have e2 : HT.sIx xs.length xs.length (some (-1)) = xs.length - 1 := by
    unfold HT.sIx
    simp only
    rw [if_pos (by omega)]
    omega
  unfold cutL
  rw [e1, e2]
  simp
theorem cut_end {α : Type} (xs : List α) : cutL xs (some (-1)) none = xs.drop (xs.length - 1) := by
  have e1 : HT.sIx xs.length 0 (some (-1)) = xs.length - 1 := by
    unfold HT.sIx
    simp only
    rw [if_pos (by omega)]
    omega
  have e2 : HT.sIx xs.length xs.length none = xs.length := rfl
  unfold cutL
  rw [e1, e2, List.take_of_length_le (by simp)]
theorem cut_any {α : Type} {xs : List α} {lo hi : Option Int} {a : α} (h : a ∈ cutL xs lo hi) : a ∈ xs := by
  unfold cutL at h
  exact List.mem_of_mem_drop (List.mem_of_mem_take h)
theorem cut_len {α : Type} (xs : List α) (lo hi : Option Int) : (cutL xs lo hi).length ≤ xs.length := by
  unfold cutL
  rw [List.length_take, List.length_drop]
  omega
end Rf

set_option Elab.async false
set_option linter.all false
set_option maxRecDepth 100000
set_option maxHeartbeats 4000000
namespace Rf
open PySem PySem.Spec PyProof.Rows L2

section
variable (T : Tbl) (st : Sx)
theorem ev_cut {a : E} {lo hi : List E} (h : a.isOwn = none) : ev T (.cut a lo hi) st = (ev T a st).bind fun d s0 => (evp T lo s0).bind fun l s1 => (evp T hi s1).bind fun h s2 => ofOpt (cutD d l h) s2 := by rw [ev, h]
theorem ev_stp {a : E} {lo : List E} {k : Int} (h : a.isOwn = none) : ev T (.stp a lo k) st = (ev T a st).bind fun d s0 => (evp T lo s0).bind fun l s1 => ofOpt (stpD d l k) s1 := by rw [ev, h]
@[simp] theorem ev_cut_var (i : Nat) (lo hi : List E) : ev T (.cut (.var i) lo hi) st = (ev T (.var i) st).bind fun d s0 => (evp T lo s0).bind fun l s1 => (evp T hi s1).bind fun h s2 => ofOpt (cutD d l h) s2 := ev_cut T st rfl
@[simp] theorem ev_cut_prim (p : P) (es lo hi : List E) : ev T (.cut (.prim p es) lo hi) st = (ev T (.prim p es) st).bind fun d s0 => (evp T lo s0).bind fun l s1 => (evp T hi s1).bind fun h s2 => ofOpt (cutD d l h) s2 := ev_cut T st rfl
@[simp] theorem ev_stp_var (i : Nat) (lo : List E) (k : Int) : ev T (.stp (.var i) lo k) st = (ev T (.var i) st).bind fun d s0 => (evp T lo s0).bind fun l s1 => ofOpt (stpD d l k) s1 := ev_stp T st rfl
@[simp] theorem ev_stp_call (i : Nat) (es lo : List E) (k : Int) : ev T (.stp (.call i es) lo k) st = (ev T (.call i es) st).bind fun d s0 => (evp T lo s0).bind fun l s1 => ofOpt (stpD d l k) s1 := ev_stp T st rfl
end
theorem ix_lst {xs : List D} {i : Int} (h1 : 0 ≤ i) (h2 : i < xs.length) : ∃ a, ixD (.lst xs) i = some a ∧ a ∈ xs := by
  have hn : i.toNat < xs.length := by omega
  refine ⟨xs[i.toNat], ?_, List.getElem_mem hn⟩
  have e1 : ixN xs.length i = some i.toNat := by unfold ixN; rw [if_pos h1, if_pos h2]
  simp only [ixD, atI, e1]
  simp [hn]
theorem ix_tup {xs : List D} {i : Int} (h1 : 0 ≤ i) (h2 : i < xs.length) : ∃ a, ixD (.tup xs) i = some a ∧ a ∈ xs := by
  have hn : i.toNat < xs.length := by omega
  refine ⟨xs[i.toNat], ?_, List.getElem_mem hn⟩
  have e1 : ixN xs.length i = some i.toNat := by unfold ixN; rw [if_pos h1, if_pos h2]
  simp only [ixD, atI, e1]
  simp [hn]
def DrawOk (F : Mirror) : Prop := ∀ (g : List Gd) (j : Nat) (kd : Gd) (many : Int), g[j]? = some kd → Fd kd → 0 < many → many < 1073741824 → ∃ r kd', 0 ≤ r ∧ r < many ∧ Fd kd' ∧ F [.glb j, .val (.int many)] g = .ret (.int r) (g.set j kd')
theorem hDraw_ok (T : Tbl) : DrawOk (mirror T hDraw) := fun g j kd many h hf h1 h2 => draw_ok T h hf h1 h2
theorem take_set (g : List Gd) (j : Nat) (x : Gd) : (g.set j x).take g.length = g.set j x := by rw [List.take_of_length_le (by simp)]
theorem odd_ok {T : Tbl} {kd : Nat} (hd : DrawOk (T kd)) {g : List Gd} {j : Nat} {f : Gd} (h : g[j]? = some f) (hf : Fd f) : ∃ r f', Sm 1 20 3 r ∧ Fd f' ∧ mirror T (hOdd kd) [.glb j] g = .ret r (g.set j f') := by
  obtain ⟨r, f', h1, h2, h3, e⟩ := hd g j f 16 h hf (by decide) (by decide)
  have al : ∀ a ∈ ([.non, .bl true, .bl false, .int 0, .int (-1), .int 1, .str [], .str [111, 117, 116], .str [115, 104, 101, 108, 102], .str [109, 111, 118, 101], .tup [], .lst [], .tup [.str [97], .int 0, .int 1], .tup [.str [99, 111, 117, 110, 116], .str [97], .int 0], .int 5, .tup [.str [97]]] : List D), Sm 1 20 3 a := by
    intro a ha
    simp only [List.mem_cons, List.not_mem_nil, or_false] at ha
    rcases ha with rfl | rfl | rfl | rfl | rfl | rfl | rfl | rfl | rfl | rfl | rfl | rfl | rfl | rfl | rfl | rfl <;> first
      | (left; simp [Sc]; done)
      | (right; exact ⟨_, .inl rfl, by decide, by simp [Sm, Sc]⟩)
      | (right; exact ⟨_, .inr rfl, by decide, by simp [Sm, Sc]⟩)
  obtain ⟨a, ea, ma⟩ := ix_lst (xs := [.non, .bl true, .bl false, .int 0, .int (-1), .int 1, .str [], .str [111, 117, 116], .str [115, 104, 101, 108, 102], .str [109, 111, 118, 101], .tup [], .lst [], .tup [.str [97], .int 0, .int 1], .tup [.str [99, 111, 117, 110, 116], .str [97], .int 0], .int 5, .tup [.str [97]]]) h1 h2
  refine ⟨a, f', al a ma, h3, ?_⟩
  simp [mirror, hOdd, cutG, e, ea, take_set, big]
end Rf

set_option Elab.async false
set_option linter.all false
set_option maxRecDepth 100000
set_option maxHeartbeats 4000000
namespace Rf
open PySem PySem.Spec PyProof.Rows L2

def OddOk (F : Mirror) : Prop := ∀ (g : List Gd) (j : Nat) (f : Gd), g[j]? = some f → Fd f → ∃ r f', Sm 1 20 3 r ∧ Fd f' ∧ F [.glb j] g = .ret r (g.set j f')
def BentOk (F : Mirror) (k : Nat) : Prop := ∀ (s m : Nat) (d : D) (g : List Gd) (j : Nat) (f : Gd), Sm k s m d → 20 ≤ s → s ≤ 1000 → 3 ≤ m → m ≤ 50 → g[j]? = some f → Fd f →
  ∃ r f', Sm (k + 1) (3 * s + 20) (m + 1) r ∧ Fd f' ∧ F [.glb j, .val d] g = .ret r (g.set j f')
theorem Sm.tup_mem {k s m : Nat} {xs : List D} (h : Sm k s m (.tup xs)) : xs.length ≤ m ∧ ∃ k', k = k' + 1 ∧ ∀ a ∈ xs, Sm k' s m a := by
  cases k with
  | zero => exact h.elim
  | succ k =>
    rcases h with h | ⟨ys, h1, h2, h3⟩
    · exact h.elim
    · rcases h1 with h1 | h1 <;> cases h1
      exact ⟨h2, k, rfl, h3⟩
theorem Sm.of_str {k s m : Nat} {x : List Nat} (h : Sm k s m (.str x)) : x.length ≤ s ∧ ∀ c ∈ x, c < 128 := by
  cases k with
  | zero => exact h
  | succ k =>
    rcases h with h | ⟨ys, h1, h2, h3⟩
    · exact h
    · rcases h1 with h1 | h1 <;> cases h1
theorem Sm.of_int {k s m : Nat} {i : Int} (h : Sm k s m (.int i)) : i.natAbs ≤ s := by
  cases k with
  | zero => exact h
  | succ k =>
    rcases h with h | ⟨ys, h1, h2, h3⟩
    · exact h
    · rcases h1 with h1 | h1 <;> cases h1
theorem Sm.sc {k s m : Nat} {d : D} (h : Sc s d) : Sm k s m d := by
  cases k with
  | zero => exact h
  | succ k => exact .inl h
theorem Sm.mk {k s m : Nat} {xs : List D} (h1 : xs.length ≤ m) (h2 : ∀ a ∈ xs, Sm k s m a) : Sm (k + 1) s m (.tup xs) := .inr ⟨xs, .inl rfl, h1, h2⟩
theorem Sm.mkL {k s m : Nat} {xs : List D} (h1 : xs.length ≤ m) (h2 : ∀ a ∈ xs, Sm k s m a) : Sm (k + 1) s m (.lst xs) := .inr ⟨xs, .inr rfl, h1, h2⟩
theorem up_ascii : ∀ c < 128, ∀ d ∈ Unicode.upperOf c, d < 128 := by decide +kernel
theorem upper_ok {x : List Nat} (h : ∀ c ∈ x, c < 128) : ∀ c ∈ (Txt.upper ⟨x.toArray⟩).cps.toList, c < 128 := by
  intro c hc
  have hc : c ∈ (PySem.placed ⟨x.toArray⟩ fun _ c => Unicode.upperOf c).toList := hc
  unfold PySem.placed at hc
  simp only [Array.mem_toList_iff, Array.mem_flatten, Array.mem_mapIdx] at hc
  obtain ⟨l, ⟨i, hi, rfl⟩, hl⟩ := hc
  have hm : (⟨x.toArray⟩ : Str).cps[i] ∈ x := by
    have := Array.getElem_mem hi
    simpa using this
  exact up_ascii _ (h _ hm) c (by simpa using hl)
theorem text_ok {i : Int} (h : i.natAbs ≤ 1000) : (Str.ofString (toString i)).cps.toList.length ≤ 5 ∧ ∀ c ∈ (Str.ofString (toString i)).cps.toList, c < 128 := by
  refine ⟨?_, fun c hc => ?_⟩
  · have h1 := PySem.int_text_length_le10 (a := i) (k := 4) (by decide) (by have : (10 : Nat) ^ 4 = 10000 := by decide
                                                                            omega)
    have h2 := PySem.ofString_length (toString i)
    rw [Array.length_toList]
    have h3 : (Str.ofString (toString i)).cps.size = (Str.ofString (toString i)).length := rfl
    omega
  · by_cases z : c < 128
    · exact z
    · exact absurd hc (PyProof.Rows.int_text_free' c ⟨by omega, .inr (by omega)⟩ i)
theorem bent_ok {T : Tbl} {kd ko kb : Nat} (hd : DrawOk (T kd)) (ho : OddOk (T ko)) {k : Nat} (hk : k ≤ 50) (hb : ∀ k', k = k' + 1 → BentOk (T kb) k') : BentOk (mirror T (hBent kd ko kb)) k := by
  intro s m d g j f hs s1 s2 m1 m2 h hf
  have bg : (big : Nat) = 16777216 := rfl
  have gs : ∀ x : Gd, (g.set j x)[j]? = some x := fun x => List.getElem?_set_self (List.getElem?_eq_some_iff.mp h).1
  have ss : ∀ x y : Gd, (g.set j x).set j y = g.set j y := fun x y => by rw [List.set_set]
  -- the second road: a way is drawn
  have odd : ∀ f1 : Gd, Fd f1 → ∃ r f', Sm (k + 1) (3 * s + 20) (m + 1) r ∧ Fd f' ∧ T ko [.glb j] (g.set j f1) = .ret r (g.set j f') := by
    intro f1 hf1
    obtain ⟨r, f', q1, q2, q3⟩ := ho _ j f1 (gs f1) hf1
    exact ⟨r, f', q1.mono (by omega) (by omega) (by omega), q2, by rw [q3, ss]⟩
  cases d with
  | non =>
    obtain ⟨w, f1, w1, w2, hf1, ew⟩ := hd g j f 9 h hf (by decide) (by decide)
    obtain ⟨r, f2, q1, q2, q3⟩ := odd f1 hf1
    exact ⟨r, f2, q1, q2, by simp [mirror, hBent, cutG, isTy, truth, ew, q3, take_set]⟩
  | lst xs =>
    obtain ⟨w, f1, w1, w2, hf1, ew⟩ := hd g j f 9 h hf (by decide) (by decide)
    obtain ⟨r, f2, q1, q2, q3⟩ := odd f1 hf1
    exact ⟨r, f2, q1, q2, by simp [mirror, hBent, cutG, isTy, truth, ew, q3, take_set]⟩
  | dct ks xs =>
    cases k with
    | zero => exact hs.elim
    | succ k =>
      rcases hs with hs | ⟨ys, h1, _, _⟩
      · exact hs.elim
      · rcases h1 with h1 | h1 <;> cases h1
  | str x =>
    obtain ⟨w, f1, w1, w2, hf1, ew⟩ := hd g j f 9 h hf (by decide) (by decide)
    obtain ⟨x1, x2⟩ := hs.of_str
    by_cases hw : w < 6
    · have al : ∀ a ∈ ([.str (x ++ [97]), .str (cutL x none (some (-1))), .str (Txt.upper ⟨x.toArray⟩).cps.toList, .str (x ++ [32]), .lst [.str x], .str (x ++ [97, 98, 99, 100, 101, 102, 103, 104])] : List D), Sm (k + 1) (3 * s + 20) (m + 1) a := by
        have up := PyProof.Rows.len_upper (⟨x.toArray⟩ : Str)
        rw [str_len] at up
        have up2 : (Txt.upper (⟨x.toArray⟩ : Str)).cps.toList.length ≤ 3 * x.length := by rw [Array.length_toList]; exact up
        have cl := cut_len x none (some (-1))
        intro a ha
        simp only [List.mem_cons, List.not_mem_nil, or_false] at ha
        rcases ha with rfl | rfl | rfl | rfl | rfl | rfl
        · exact .sc ⟨by simp; omega, fun c hc => by rcases List.mem_append.mp hc with z | z; exact x2 c z; simp at z; omega⟩
        · exact .sc ⟨by omega, fun c hc => x2 c (cut_any hc)⟩
        · exact .sc ⟨by omega, upper_ok x2⟩
        · exact .sc ⟨by simp; omega, fun c hc => by rcases List.mem_append.mp hc with z | z; exact x2 c z; simp at z; omega⟩
        · exact .mkL (by simp) (fun b hb => by
            have : b = .str x := by simpa using hb
            subst this
            exact .sc ⟨by omega, x2⟩)
        · exact .sc ⟨by simp; omega, fun c hc => by rcases List.mem_append.mp hc with z | z; exact x2 c z; simp at z; omega⟩
      obtain ⟨a, ea, ma⟩ := ix_lst (xs := [.str (x ++ [97]), .str (cutL x none (some (-1))), .str (Txt.upper ⟨x.toArray⟩).cps.toList, .str (x ++ [32]), .lst [.str x], .str (x ++ [97, 98, 99, 100, 101, 102, 103, 104])]) w1 (by simpa using hw)
      have l1 : x.length + 1 ≤ big := by omega
      have l8 : x.length + 8 ≤ big := by omega
      have l3 : x.length ≤ 5592405 := by omega
      refine ⟨a, f1, al a ma, hf1, ?_⟩
      simp [mirror, hBent, cutG, isTy, truth, ew, take_set, hw, cutD, l1, l8, l3, P.fits, big] at ea ⊢
      rw [ea]
      simp [take_set]
    · obtain ⟨r, f2, q1, q2, q3⟩ := odd f1 hf1
      exact ⟨r, f2, q1, q2, by simp [mirror, hBent, cutG, isTy, truth, ew, q3, take_set, hw]⟩
  | int i =>
    obtain ⟨w, f1, w1, w2, hf1, ew⟩ := hd g j f 9 h hf (by decide) (by decide)
    have hi := hs.of_int
    by_cases hw : w < 6
    · obtain ⟨t1, t2⟩ := text_ok (i := i) (by omega)
      have al : ∀ a ∈ ([.int (i + 1), .int (i - 1), .bl (decide (i = 1)), .str (Str.ofString (toString i)).cps.toList, .int (0 - i), .lst [.int i]] : List D), Sm (k + 1) (3 * s + 20) (m + 1) a := by
        intro a ha
        simp only [List.mem_cons, List.not_mem_nil, or_false] at ha
        rcases ha with rfl | rfl | rfl | rfl | rfl | rfl
        · exact .sc (by simp only [Sc]; omega)
        · exact .sc (by simp only [Sc]; omega)
        · exact .sc trivial
        · exact .sc ⟨by omega, t2⟩
        · exact .sc (by simp only [Sc]; omega)
        · exact .mkL (by simp) (fun b hb => by
            have : b = .int i := by simpa using hb
            subst this
            exact .sc (by simp only [Sc]; omega))
      obtain ⟨a, ea, ma⟩ := ix_lst (xs := [.int (i + 1), .int (i - 1), .bl (decide (i = 1)), .str (Str.ofString (toString i)).cps.toList, .int (0 - i), .lst [.int i]]) w1 (by simpa using hw)
      have lg : i.natAbs.log2 < 1920 := by
        by_cases z : i.natAbs = 0
        · rw [z]; decide
        · have h20 : i.natAbs.log2 < 20 := by
            rw [Nat.log2_lt z]
            have : (1000000 : Nat) < 2 ^ 20 := by decide
            omega
          omega
      refine ⟨a, f1, al a ma, hf1, ?_⟩
      simp [mirror, hBent, cutG, isTy, truth, ew, take_set, hw, lg, eqD_int, big] at ea ⊢
      rw [ea]
      simp [take_set]
    · obtain ⟨r, f2, q1, q2, q3⟩ := odd f1 hf1
      exact ⟨r, f2, q1, q2, by simp [mirror, hBent, cutG, isTy, truth, ew, q3, take_set, hw]⟩
  | bl i =>
    obtain ⟨w, f1, w1, w2, hf1, ew⟩ := hd g j f 9 h hf (by decide) (by decide)
    by_cases hw : w < 6
    · have al : ∀ a ∈ ([.int (bI i + 1), .int (bI i - 1), .bl i, .str (if i then [84, 114, 117, 101] else [70, 97, 108, 115, 101]), .int (0 - bI i), .lst [.bl i]] : List D), Sm (k + 1) (3 * s + 20) (m + 1) a := by
        intro a ha
        simp only [List.mem_cons, List.not_mem_nil, or_false] at ha
        rcases ha with rfl | rfl | rfl | rfl | rfl | rfl
        · exact .sc (by cases i <;> simp only [Sc, bI] <;> simp)
        · exact .sc (by cases i <;> simp only [Sc, bI] <;> simp)
        · exact .sc trivial
        · exact .sc (by cases i <;> simp [Sc] <;> omega)
        · exact .sc (by cases i <;> simp only [Sc, bI] <;> simp)
        · exact .mkL (by simp) (fun b hb => by
            have : b = .bl i := by simpa using hb
            subst this
            exact .sc trivial)
      obtain ⟨a, ea, ma⟩ := ix_lst (xs := [.int (bI i + 1), .int (bI i - 1), .bl i, .str (if i then [84, 114, 117, 101] else [70, 97, 108, 115, 101]), .int (0 - bI i), .lst [.bl i]]) w1 (by simpa using hw)
      have eb : eqD (.bl i) (.int 1) = some i := by cases i <;> rfl
      refine ⟨a, f1, al a ma, hf1, ?_⟩
      simp [mirror, hBent, cutG, isTy, truth, ew, take_set, hw, eb, big] at ea ⊢
      rw [ea]
      simp [take_set]
    · obtain ⟨r, f2, q1, q2, q3⟩ := odd f1 hf1
      exact ⟨r, f2, q1, q2, by simp [mirror, hBent, cutG, isTy, truth, ew, q3, take_set, hw]⟩
  | tup xs =>
    obtain ⟨lx, k', rfl, el⟩ := hs.tup_mem
    obtain ⟨gd1, _, gd3, _⟩ := Sm.good (s := s) (m := m) (by omega) hs
    have sd : s ≤ 1000 := s2
    have hb' := hb k' rfl
    have sh : SeqAt.shaped (toP (.tup xs)) = true := by
      have : (toP (.tup xs)).depth ≤ k' + 1 := gd3
      simp only [SeqAt.shaped, gd1, Bool.true_and, decide_eq_true_eq]
      omega
    have he : eqD (.tup xs) (.tup []) = some xs.isEmpty := by
      have e : PyData.eqv (toP (.tup xs)) (toP (.tup [])) = xs.isEmpty := by cases xs <;> simp [toP, toPL, PyData.eqv, PyData.eqvAll]
      have s : SeqAt.shaped (toP (.tup [])) = true := rfl
      show (if SeqAt.shaped (toP (.tup xs)) && SeqAt.shaped (toP (.tup [])) then _ else _) = _
      rw [sh, s, if_pos (by decide), e]
    have up : ∀ a ∈ xs, Sm (k' + 1) (3 * s + 20) (m + 1) a := fun a ha => (el a ha).mono (by omega) (by omega) (by omega)
    have road : ∀ (g' : List Gd) (f0 : Gd), g'[j]? = some f0 → Fd f0 → (∀ y, g'.set j y = g.set j y) → ∃ r f' sl, Sm (k' + 1 + 1) (3 * s + 20) (m + 1) r ∧ Fd f' ∧
        runs T (hBent kd ko kb).body.tail ⟨[.glb j, .val (.tup xs), .none, .none, .none], g'⟩ = .ret r ⟨sl, g.set j f'⟩ := by
      intro g' f0 h' hf' hg
      obtain ⟨w, f1, w1, w2, hf1, ew⟩ := hd g' j f0 9 h' hf' (by decide) (by decide)
      rw [hg] at ew
      by_cases hw : w < 7
      · have c1 := cut_len xs (some 1) none
        have c2 := cut_len xs none (some (-1))
        have c3 : (cutL xs (some (-1)) none).length ≤ 1 := by rw [cut_end, List.length_drop]; omega
        have al : ∀ a ∈ ([.lst xs, .tup (cutL xs (some 1) none), .tup (cutL xs none (some (-1))), .tup (xs ++ cutL xs (some (-1)) none), .tup xs.reverse, .tup [.tup xs], .tup (xs ++ [.non])] : List D), Sm (k' + 1 + 1) (3 * s + 20) (m + 1) a := by
          intro a ha
          simp only [List.mem_cons, List.not_mem_nil, or_false] at ha
          rcases ha with rfl | rfl | rfl | rfl | rfl | rfl | rfl
          · exact .mkL (by omega) up
          · exact .mk (by omega) fun a ha => up a (cut_any ha)
          · exact .mk (by omega) fun a ha => up a (cut_any ha)
          · exact .mk (by rw [List.length_append]; omega) fun a ha => by
              rcases List.mem_append.mp ha with z | z
              · exact up a z
              · exact up a (cut_any z)
          · exact .mk (by rw [List.length_reverse]; omega) fun a ha => up a (List.mem_reverse.mp ha)
          · exact .mk (by simp) fun a ha => by
              have : a = .tup xs := by simpa using ha
              subst this
              exact .mk (by omega) fun a ha => (el a ha).mono (by omega) (by omega) (by omega)
          · exact .mk (by rw [List.length_append]; simp; omega) fun a ha => by
              rcases List.mem_append.mp ha with z | z
              · exact up a z
              · have : a = .non := by simpa using z
                subst this
                exact .sc trivial
        obtain ⟨a, ea, ma⟩ := ix_lst (xs := [.lst xs, .tup (cutL xs (some 1) none), .tup (cutL xs none (some (-1))), .tup (xs ++ cutL xs (some (-1)) none), .tup xs.reverse, .tup [.tup xs], .tup (xs ++ [.non])]) w1 (by simpa using hw)
        have l1 : xs.length + (cutL xs (some (-1)) none).length ≤ 16777216 := by omega
        have l2 : xs.length + 1 ≤ 16777216 := by omega
        refine ⟨a, f1, [.glb j, .val (.tup xs), .val (.int w), .none, .val (.lst [.lst xs, .tup (cutL xs (some 1) none), .tup (cutL xs none (some (-1))), .tup (xs ++ cutL xs (some (-1)) none)])], al a ma, hf1, ?_⟩
        simp [hBent, isTy, truth, ew, hw, cutD, stpD, big, l1, l2] at ea ⊢
        rw [ea]
        simp
      · obtain ⟨r, f2, q1, q2, q3⟩ := odd f1 hf1
        refine ⟨r, f2, [.glb j, .val (.tup xs), .val (.int w), .none, .none], q1, q2, ?_⟩
        simp [hBent, isTy, truth, ew, q3, hw]
    have fin : ∀ (g' : List Gd) (f0 : Gd), g'[j]? = some f0 → Fd f0 → (∀ y, g'.set j y = g.set j y) →
        runs T (hBent kd ko kb).body ⟨[.glb j, .val (.tup xs), .none, .none, .none], g⟩ = runs T (hBent kd ko kb).body.tail ⟨[.glb j, .val (.tup xs), .none, .none, .none], g'⟩ → ∃ r f', Sm (k' + 1 + 1) (3 * s + 20) (m + 1) r ∧ Fd f' ∧ mirror T (hBent kd ko kb) [.glb j, .val (.tup xs)] g = .ret r (g.set j f') := by
      intro g' f0 h' hf' hg e
      obtain ⟨r, f', sl, q1, q2, q3⟩ := road g' f0 h' hf' hg
      refine ⟨r, f', q1, q2, ?_⟩
      have : mirror T (hBent kd ko kb) [.glb j, .val (.tup xs)] g = cutG g.length (runs T (hBent kd ko kb).body ⟨[.glb j, .val (.tup xs), .none, .none, .none], g⟩) := rfl
      rw [this, e, q3]
      simp [cutG, take_set]
    cases hx : xs.isEmpty with
    | true =>
      have hn : xs = [] := List.isEmpty_iff.mp hx
      subst hn
      refine fin g f h hf (fun _ => rfl) ?_
      have e0 : eqD (.tup []) (.tup []) = some true := rfl
      rw [show (hBent kd ko kb).body = (hBent kd ko kb).body.head (List.cons_ne_nil _ _) :: (hBent kd ko kb).body.tail from rfl, runs_cons]
      have : run T ((hBent kd ko kb).body.head (List.cons_ne_nil _ _)) ⟨[.glb j, .val (.tup []), .none, .none, .none], g⟩ = .nx ⟨[.glb j, .val (.tup []), .none, .none, .none], g⟩ := by
        simp [hBent, isTy, truth, e0]
      rw [this]
      rfl
    | false =>
      rw [hx] at he
      obtain ⟨w, f1, w1, w2, hf1, ew⟩ := hd g j f 6 h hf (by decide) (by decide)
      by_cases hw : 0 < w
      · have lp : 0 < (xs.length : Int) := by
          cases xs with
          | nil => cases hx
          | cons x xs => simp only [List.length_cons]; omega
        obtain ⟨i, f2, i1, i2, hf2, ei⟩ := hd (g.set j f1) j f1 xs.length (gs f1) hf1 lp (by omega)
        rw [ss] at ei
        obtain ⟨a, ea, ma⟩ := ix_tup i1 i2
        obtain ⟨r, f3, q1, q2, q3⟩ := hb' s m a (g.set j f2) j f2 (el a ma) s1 s2 m1 m2 (gs f2) hf2
        rw [ss] at q3
        have t1 := cut_to xs i1 (by omega)
        have t2 := cut_from xs (i := i + 1) (by omega) (by omega)
        have n1 : (xs.take i.toNat).length = i.toNat := by rw [List.length_take]; omega
        have n2 : (xs.drop (i + 1).toNat).length = xs.length - (i + 1).toNat := List.length_drop
        refine ⟨.tup (cutL xs none (some i) ++ [r] ++ cutL xs (some (i + 1)) none), f3, .mk ?_ ?_, q2, ?_⟩
        · rw [t1, t2]
          simp only [List.length_append, List.length_cons, List.length_nil, n1, n2]
          omega
        · intro b hb
          rcases List.mem_append.mp hb with z | z
          · rcases List.mem_append.mp z with z | z
            · exact up b (cut_any z)
            · have : b = r := by simpa using z
              subst this
              exact q1
          · exact up b (cut_any z)
        · have l1 : (cutL xs none (some i)).length + 1 ≤ 16777216 := by rw [t1, n1]; omega
          have l2 : (cutL xs none (some i)).length + 1 + (cutL xs (some (i + 1)) none).length ≤ 16777216 := by rw [t1, n1, t2, n2]; omega
          simp [mirror, hBent, cutG, isTy, truth, he, ew, hw, ei, ea, q3, cutD, big, take_set, l1, l2]
      · refine fin (g.set j f1) f1 (gs f1) hf1 (fun y => ss f1 y) ?_
        rw [show (hBent kd ko kb).body = (hBent kd ko kb).body.head (List.cons_ne_nil _ _) :: (hBent kd ko kb).body.tail from rfl, runs_cons]
        have : run T ((hBent kd ko kb).body.head (List.cons_ne_nil _ _)) ⟨[.glb j, .val (.tup xs), .none, .none, .none], g⟩ = .nx ⟨[.glb j, .val (.tup xs), .none, .none, .none], g.set j f1⟩ := by
          simp [hBent, isTy, truth, he, ew, hw]
        rw [this]
        rfl
end Rf

set_option Elab.async false
set_option linter.all false
set_option maxRecDepth 100000
set_option maxHeartbeats 4000000
namespace Rf
open PySem PySem.Spec PyProof.Rows L2

theorem ev_comp (T : Tbl) (st : Sx) (elt : E) (pt : Pat) (it : ItK) (src cs : List E) (ws : List Nat) : ev T (.comp elt pt it src cs ws) st = (evs T src st).bind fun ds s1 => match it.get ds with
    | some xs => match compL (bindP pt) (evt T cs) (ev T elt) ws xs s1 with
      | .ok rs s2 => if rs.length ≤ big then .ok (.lst rs) ⟨backR s1.r ws s2.r, s2.g⟩ else .bad
      | _ => .bad
    | none => .bad := by first | (rw [ev]; done) | (rw [ev]; rfl)
def nS (x : List Nat) : D := .str x
def menu : Nat → List D
  | 0 => [.tup [.str [115, 104, 101, 108, 102], .int 3, .int 9], .tup [.str [115, 116, 111, 114, 101], .int 8, .int 20]]
  | 1 => [.tup [.str [97], .int 0, .int 4]]
  | 2 => [.tup [.str [98], .int 1, .int 5], .tup [.str [99, 111, 117, 110, 116], .int 2, .int 2], .tup [.str [109, 111, 118, 101], .int 0, .int 7]]
  | _ => [.tup [.str [112], .int 0, .int 1], .tup [.str [113], .int 5, .int 5], .tup [.str [114], .int 2, .int 6], .tup [.str [122, 122, 122, 122, 122, 122, 122, 122], .int 19, .int 20]]
def menuN : Nat → List (List Nat)
  | 0 => [[115, 104, 101, 108, 102], [115, 116, 111, 114, 101]]
  | 1 => [[97]]
  | 2 => [[98], [99, 111, 117, 110, 116], [109, 111, 118, 101]]
  | _ => [[112], [113], [114], [122, 122, 122, 122, 122, 122, 122, 122]]
def menuC : Nat → List Int
  | 0 => [9, 20]
  | 1 => [4]
  | 2 => [5, 2, 7]
  | _ => [1, 5, 6, 20]
def outN : List Nat := [111, 117, 116]
def namesOf (i : Nat) : List (List Nat) := menuN i ++ [outN]
def poolOf (ns : List (List Nat)) : List D := ns.flatMap fun a => (ns.filter fun b => decide (b ≠ a)).map fun b => .tup [.str a, .str b]
def capsOf (i : Nat) : D := .dct ((menuN i).map fun x => .inr ⟨x.toArray⟩) ((menuC i).map .int)
def hb (kd : Nat) : List S := (hBook kd).body
def menus : D := .lst [.tup (menu 0), .tup (menu 1), .tup (menu 2), .tup (menu 3)]
theorem book_a {T : Tbl} {kd : Nat} (hd : DrawOk (T kd)) {g : List Gd} {j : Nat} {f : Gd} {n : Int} (h : g[j]? = some f) (hf : Fd f) : ∃ (i : Nat) (f' : Gd), i < 4 ∧ Fd f' ∧
    runs T ((hb kd).take 4) ⟨[.glb j, .val (.int n), .none, .none, .none, .none, .none, .none, .none, .none, .none, .none, .none, .none], g⟩ =
      .nx ⟨[.glb j, .val (.int n), .val menus, .val (.tup (menu i)), .none, .none, .none, .none, .none, .none, .none, .none, .none, .none], g.set j f'⟩ := by
  obtain ⟨r, f', r1, r2, hf', e⟩ := hd g j f 4 h hf (by decide) (by decide)
  have hr : r = 0 ∨ r = 1 ∨ r = 2 ∨ r = 3 := by omega
  rcases hr with rfl | rfl | rfl | rfl
  · exact ⟨0, f', by decide, hf', by simp [hb, hBook, e, MutK.ap, big, ixD, atI, ixN, menu, menus]⟩
  · exact ⟨1, f', by decide, hf', by simp [hb, hBook, e, MutK.ap, big, ixD, atI, ixN, menu, menus]⟩
  · exact ⟨2, f', by decide, hf', by simp [hb, hBook, e, MutK.ap, big, ixD, atI, ixN, menu, menus]⟩
  · exact ⟨3, f', by decide, hf', by simp [hb, hBook, e, MutK.ap, big, ixD, atI, ixN, menu, menus]⟩
theorem book_b1 (T : Tbl) (kd : Nat) (g : List Gd) (j : Nat) (n : Int) : ∀ i < 4,
    runs T (((hb kd).drop 4).take 2) ⟨[.glb j, .val (.int n), .val menus, .val (.tup (menu i)), .none, .none, .none, .none, .none, .none, .none, .none, .none, .none], g⟩ =
      .nx ⟨[.glb j, .val (.int n), .val menus, .val (.tup (menu i)), .val (capsOf i), .val (.lst ((namesOf i).map .str)), .own [], .none, .none, .none, .none, .none, .none, .none], g⟩ := by
  intro i hi
  have : i = 0 ∨ i = 1 ∨ i = 2 ∨ i = 3 := by omega
  rcases this with rfl | rfl | rfl | rfl
  all_goals simp [hb, hBook, menu, ev_comp, ItK.get, compL, wipeR, backR, ixD, atI, ixN, big, pairsD, keyD, mergeD, setK, capsOf, menuN, menuC, namesOf, outN]
theorem book_b2 (T : Tbl) (kd : Nat) (g : List Gd) (j : Nat) (n : Int) : ∀ i < 4,
    runs T (((hb kd).drop 6).take 2) ⟨[.glb j, .val (.int n), .val menus, .val (.tup (menu i)), .val (capsOf i), .val (.lst ((namesOf i).map .str)), .own [], .none, .none, .none, .none, .none, .none, .none], g⟩ =
      .nx ⟨[.glb j, .val (.int n), .val menus, .val (.tup (menu i)), .val (capsOf i), .val (.lst ((namesOf i).map .str)), .own (poolOf (namesOf i)), .val (.str outN), .own [], .none, .none, .none, .none, .none], g⟩ := by
  intro i hi
  have : i = 0 ∨ i = 1 ∨ i = 2 ∨ i = 3 := by omega
  rcases this with rfl | rfl | rfl | rfl
  all_goals simp [hb, hBook, run_for, loopS, ev_comp, ItK.get, compL, wipeR, backR, truth, eqD, MutK.ap, big, menuN, namesOf, outN, poolOf]
end Rf

set_option Elab.async false
set_option linter.all false
set_option maxRecDepth 100000
set_option maxHeartbeats 4000000
namespace Rf
open PySem PySem.Spec PyProof.Rows L2

def NmD (x : List Nat) : Prop := x.length ≤ 8 ∧ ∀ c ∈ x, c < 128
def PairD (p : D) : Prop := ∃ a b, p = .tup [.str a, .str b] ∧ NmD a ∧ NmD b
def CostD (p : D) : Prop := ∃ a b n, p = .tup [.str a, .str b, .int n] ∧ NmD a ∧ NmD b ∧ 1 ≤ n ∧ n ≤ 9
theorem names_ok : ∀ i < 4, ∀ x ∈ namesOf i, NmD x := by
  intro i hi
  have : i = 0 ∨ i = 1 ∨ i = 2 ∨ i = 3 := by omega
  rcases this with rfl | rfl | rfl | rfl <;> simp [namesOf, menuN, outN, NmD]
theorem pool_ok (i : Nat) (hi : i < 4) : ∀ p ∈ poolOf (namesOf i), PairD p := by
  intro p hp
  simp only [poolOf, List.mem_flatMap, List.mem_map, List.mem_filter] at hp
  obtain ⟨a, ha, b, ⟨hb, _⟩, rfl⟩ := hp
  exact ⟨a, b, rfl, names_ok i hi a ha, names_ok i hi b hb⟩
theorem pool_len : ∀ i < 4, (poolOf (namesOf i)).length ≤ 20 := by
  intro i hi
  have : i = 0 ∨ i = 1 ∨ i = 2 ∨ i = 3 := by omega
  rcases this with rfl | rfl | rfl | rfl <;> simp [namesOf, menuN, outN, poolOf]
def cSt (j : Nat) (n : Int) (i : Nat) (pool : List D) (s7 : D) (found : List D) (s9 : Slot) (gg : List Gd) : Sx :=
  ⟨[.glb j, .val (.int n), .val menus, .val (.tup (menu i)), .val (capsOf i), .val (.lst ((namesOf i).map .str)), .own pool, .val s7, .own found, s9, .none, .none, .none, .none], gg⟩
theorem rangeD_at (lo : Int) (m i : Nat) (x : D) (h : (rangeD lo m)[i]? = some x) : i < m ∧ x = .int (lo + i) := rangeD_get m lo i x h
theorem costs_run {T : Tbl} {kd : Nat} (hd : DrawOk (T kd)) {g : List Gd} {j : Nat} {f : Gd} {n : Int} {i : Nat} {pool : List D} {s7 : D} (h : g[j]? = some f) (hf : Fd f) (hp : ∀ p ∈ pool, PairD p) (hl : pool.length ≤ 20) :
    ∃ pool' found s9 f', Fd f' ∧ (∀ c ∈ found, CostD c) ∧ found.length ≤ 20 ∧ runs T (((hb kd).drop 8).take 1) (cSt j n i pool s7 [] .none g) = .nx (cSt j n i pool' s7 found s9 (g.set j f')) := by
  have gs : ∀ x : Gd, (g.set j x)[j]? = some x := fun x => List.getElem?_set_self (List.getElem?_eq_some_iff.mp h).1
  have ss : ∀ x y : Gd, (g.set j x).set j y = g.set j y := fun x y => by rw [List.set_set]
  obtain ⟨r, f1, r1, r2, hf1, e⟩ := hd g j f 6 h hf (by decide) (by decide)
  let bd : List S := [.drop (.mutl .append 8 [(.prim .add [(.mutl .pop 6 [(.call kd [(.gv 0), (.prim .len [(.own 6)])])]), (.tup [(.prim .add [(.kint 1), (.call kd [(.gv 0), (.kint 9)])])])])])]
  have hm : 0 ≤ min2 pool.length r ∧ min2 pool.length r ≤ pool.length := by unfold min2; split <;> omega
  let P : Nat → Sx → Prop := fun q s => ∃ pl fo s9 ff, s = cSt j n i pl s7 fo s9 (g.set j ff) ∧ Fd ff ∧ pl.length + q = pool.length ∧ (∀ p ∈ pl, PairD p) ∧ (∀ c ∈ fo, CostD c) ∧ fo.length = q
  obtain ⟨s', es, pl, fo, s9, ff, rfl, q1, q2, q3, q4, q5⟩ := loop_inv (b := bindP (.nm 9)) (f := runs T bd) P (rangeD 0 (min2 pool.length r).toNat) 0 (cSt j n i pool s7 [] .none (g.set j f1)) ⟨pool, [], .none, f1, rfl, hf1, rfl, hp, by simp, rfl⟩ (by
    rintro q x s hx ⟨pl, fo, s9, ff, rfl, q1, q2, q3, q4, q5⟩
    obtain ⟨hq, rfl⟩ := rangeD_at _ _ _ _ hx
    rw [Nat.zero_add] at q2 q5
    have lp : 0 < (pl.length : Int) := by omega
    obtain ⟨a1, f2, a2, a3, hf2, e2⟩ := hd (g.set j ff) j ff pl.length (gs ff) q1 lp (by omega)
    rw [ss] at e2
    obtain ⟨b1, f3, b2, b3, hf3, e3⟩ := hd (g.set j f2) j f2 9 (gs f2) hf2 (by decide) (by decide)
    rw [ss] at e3
    have hn : a1.toNat < pl.length := by omega
    have ei : ixN pl.length a1 = some a1.toNat := by unfold ixN; rw [if_pos a2, if_pos a3]
    obtain ⟨x, y, ep, nx, ny⟩ := q3 _ (List.getElem_mem hn)
    have eg : pl[a1.toNat]? = some (.tup [.str x, .str y]) := by rw [List.getElem?_eq_getElem hn, ep]
    refine ⟨_, cSt j n i (pl.eraseIdx a1.toNat) s7 (fo ++ [.tup [.str x, .str y, .int (1 + b1)]]) (.val (.int (0 + (q : Int)))) (g.set j f3), rfl, .inl ?_, pl.eraseIdx a1.toNat, _, _, f3, rfl, hf3, ?_, ?_, ?_, ?_⟩
    · have l1 : fo.length < 16777216 := by omega
      simp [bd, cSt, e2, e3, MutK.ap, ei, eg, big, l1]
    · rw [List.length_eraseIdx_of_lt hn]; omega
    · intro p hp
      exact q3 p (List.mem_of_mem_eraseIdx hp)
    · intro c hc
      rcases List.mem_append.mp hc with z | z
      · exact q4 c z
      · have : c = .tup [.str x, .str y, .int (1 + b1)] := by simpa using z
        exact ⟨x, y, 1 + b1, this, nx, ny, by omega, by omega⟩
    · rw [List.length_append, q5]; simp)
  refine ⟨pl, fo, s9, ff, q1, q4, by omega, ?_⟩
  have rg : ItK.rng.get [.int (min2 pool.length r)] = some (rangeD 0 (min2 pool.length r).toNat) := by
    simp only [ItK.get]
    rw [if_pos ⟨by omega, by omega⟩]
  have hs : ((hb kd).drop 8).take 1 = [.forS (.nm 9) .rng [(.prim .min [(.prim .len [(.own 6)]), (.call kd [(.gv 0), (.kint 6)])])] bd] := rfl
  rw [hs, runs_cons, run_for]
  have hv : evs T [(.prim .min [(.prim .len [(.own 6)]), (.call kd [(.gv 0), (.kint 6)])])] (cSt j n i pool s7 [] .none g) = .ok [.int (min2 pool.length r)] (cSt j n i pool s7 [] .none (g.set j f1)) := by
    simp [cSt, e]
  rw [hv]
  simp only [onE_ok, rg, es, runs_nil]
end Rf

set_option Elab.async false
set_option linter.all false
set_option maxRecDepth 100000
set_option maxHeartbeats 4000000
namespace Rf
open PySem PySem.Spec PyProof.Rows L2

def RowD (p : D) : Prop := (∃ a b n, p = .tup [.str [109, 111, 118, 101], .str a, .str b, .int n] ∧ NmD a ∧ NmD b ∧ 1 ≤ n ∧ n ≤ 20) ∨ ∃ a n, p = .tup [.str [99, 111, 117, 110, 116], .str a, .int n] ∧ NmD a ∧ 0 ≤ n ∧ n ≤ 20
def capsG (i : Nat) : Gd := ((menuN i).map fun x => (.inr ⟨x.toArray⟩ : Key)).zip ((menuC i).map D.int)
def intIn (lo hi : Int) : D → Bool
  | .int c => decide (lo ≤ c) && decide (c ≤ hi)
  | _ => false
theorem caps_get : ∀ i < 4, ∀ x ∈ namesOf i, intIn 1 20 ((getK (capsG i) (.inr ⟨x.toArray⟩)).getD (.int 5)) = true := by decide +kernel
theorem caps_at : ∀ i < 4, ∀ x ∈ namesOf i, x = outN ∨ intIn 0 20 ((getK (capsG i) (.inr ⟨x.toArray⟩)).getD .non) = true := by decide +kernel
theorem intIn_of {lo hi : Int} {d : D} (h : intIn lo hi d = true) : ∃ c, d = .int c ∧ lo ≤ c ∧ c ≤ hi := by
  cases d <;> simp only [intIn] at h <;> try (cases h; done)
  simp only [Bool.and_eq_true, decide_eq_true_eq] at h
  exact ⟨_, rfl, h.1, h.2⟩
theorem index_ok (x : List Nat) : ∀ (ns : List (List Nat)) (j : Nat), x ∈ ns → ∃ k, indexD (toP (.str x)) (toPL (ns.map .str)) j = some k
  | [], j, h => by simp at h
  | y :: ns, j, h => by
    simp only [List.map_cons, toPL, indexD]
    by_cases c : PyData.eqv (toP (.str y)) (toP (.str x)) = true
    · rw [if_pos c]; exact ⟨j, rfl⟩
    · rw [if_neg c]
      rcases List.mem_cons.mp h with rfl | h
      · exact absurd (by simp [toP, PyData.eqv]) c
      · exact index_ok x ns (j + 1) h
theorem str_lay {x : List Nat} (h : NmD x) : (toP (.str x)).canLay0 = true ∧ (toP (.str x)).depth = 0 := by
  have : Sc 8 (.str x) := h
  obtain ⟨h1, _, h3, _⟩ := Sc.good (by decide) this
  exact ⟨h1, h3⟩
theorem strs_sh {ns : List (List Nat)} (h : ∀ x ∈ ns, NmD x) : SeqAt.shaped (toP (.lst (ns.map .str))) = true := by
  have q : Sm 1 8 ns.length (.lst (ns.map .str)) := .inr ⟨_, .inr rfl, by simp, fun a ha => by
    obtain ⟨x, hx, rfl⟩ := List.mem_map.mp ha
    exact h x hx⟩
  obtain ⟨h1, _, h3, _⟩ := Sm.good (by decide) q
  simp only [SeqAt.shaped, h1, Bool.true_and, decide_eq_true_eq]
  omega
theorem str_sh {x : List Nat} (h : NmD x) : SeqAt.shaped (toP (.str x)) = true := by
  obtain ⟨h1, h2⟩ := str_lay h
  simp [SeqAt.shaped, h1, h2]
theorem names_len : ∀ i < 4, 2 ≤ (namesOf i).length ∧ (namesOf i).length ≤ 5 := by decide
theorem ix_names {ns : List (List Nat)} {q : Int} (h1 : 0 ≤ q) (h2 : q < ns.length) : ∃ x, ixD (.lst (ns.map .str)) q = some (.str x) ∧ x ∈ ns := by
  obtain ⟨a, e, m⟩ := ix_lst (xs := ns.map D.str) h1 (by simpa using h2)
  obtain ⟨x, hx, rfl⟩ := List.mem_map.mp m
  exact ⟨x, e, hx⟩
def rSt (j : Nat) (n : Int) (i : Nat) (pool : List D) (s7 : D) (found : List D) (s9 : Slot) (rows : List D) (s11 s12 : Slot) (gg : List Gd) : Sx :=
  ⟨[.glb j, .val (.int n), .val menus, .val (.tup (menu i)), .val (capsOf i), .val (.lst ((namesOf i).map .str)), .val (.lst pool), .val s7, .val (.lst found), s9, .own rows, s11, s12, .none], gg⟩
def rowB (kd : Nat) : List S := match (hb kd).getD 12 .pass with
  | .forS _ _ _ b => b
  | _ => []
theorem row_step {T : Tbl} {kd : Nat} (hd : DrawOk (T kd)) {g : List Gd} {j : Nat} {n : Int} {i : Nat} (hi : i < 4) {pool : List D} {s7 : D} {found rows : List D} {s9 s11 s12 : Slot} {f : Gd} (h : j < g.length) (hf : Fd f) (hl : rows.length < 1000) :
    ∃ f' s7' s11' s12' row, Fd f' ∧ RowD row ∧ runs T (rowB kd) (rSt j n i pool s7 found s9 rows s11 s12 (g.set j f)) = .nx (rSt j n i pool s7' found s9 (rows ++ [row]) s11' s12' (g.set j f')) := by
  have gs : ∀ x : Gd, (g.set j x)[j]? = some x := fun x => List.getElem?_set_self h
  have ss : ∀ x y : Gd, (g.set j x).set j y = g.set j y := fun x y => by rw [List.set_set]
  obtain ⟨n1, n2⟩ := names_len i hi
  obtain ⟨q1, f1, a1, a2, hf1, e1⟩ := hd (g.set j f) j f (namesOf i).length (gs f) hf (by omega) (by omega)
  rw [ss] at e1
  obtain ⟨x, ex, mx⟩ := ix_names a1 a2
  obtain ⟨q2, f2, b1, b2, hf2, e2⟩ := hd (g.set j f1) j f1 ((namesOf i).length - 1) (gs f1) hf1 (by omega) (by omega)
  rw [ss] at e2
  obtain ⟨kx, ek⟩ := index_ok x (namesOf i) 0 mx
  have sx := str_sh (names_ok i hi x mx)
  have sn := strs_sh (names_ok i hi)
  have lp : 0 < ((namesOf i).length : Int) := by omega
  obtain ⟨m1, m2⟩ := fmod_lt (a := (kx : Int) + 1 + q2) lp
  obtain ⟨y, ey, my⟩ := ix_names m1 m2
  obtain ⟨c1, g1, g2, g3⟩ := intIn_of (caps_get i hi x mx)
  obtain ⟨c2, g4, g5, g6⟩ := intIn_of (caps_get i hi y my)
  have k1 : P.ap .get [capsOf i, .str x, .int 5] = some (.int c1) := by
    show some ((getK (capsG i) (.inr ⟨x.toArray⟩)).getD (.int 5)) = _
    rw [g1]
  have k2 : P.ap .get [capsOf i, .str y, .int 5] = some (.int c2) := by
    show some ((getK (capsG i) (.inr ⟨y.toArray⟩)).getD (.int 5)) = _
    rw [g4]
  have idx : P.ap .index [.lst ((namesOf i).map .str), .str x] = some (.int kx) := by
    simp only [ap_e54, sn, sx, Bool.and_self, if_true, ek, Option.map_some]
  have fg : P.fits .get (capsOf i) = true := rfl
  have fi : ∀ xs, P.fits .index (.lst xs) = true := fun _ => rfl
  have ln : ((namesOf i).map D.str).length = (namesOf i).length := by simp
  have hlen : P.ap .len [.lst ((namesOf i).map .str)] = some (.int (namesOf i).length) := by simp
  have nz : ¬ namesOf i = [] := fun z => by rw [z] at n1; simp at n1
  have mn : 1 ≤ min2 (min2 c1 c2) 5 ∧ min2 (min2 c1 c2) 5 ≤ 20 := by unfold min2; split <;> split <;> omega
  obtain ⟨q3, f3, d1, d2, hf3, e3⟩ := hd (g.set j f2) j f2 2 (gs f2) hf2 (by decide) (by decide)
  rw [ss] at e3
  have mv : ∀ f0, Fd f0 → ∃ r f', 0 ≤ r ∧ r < min2 (min2 c1 c2) 5 ∧ Fd f' ∧ T kd [.glb j, .val (.int (min2 (min2 c1 c2) 5))] (g.set j f0) = .ret (.int r) (g.set j f') := by
    intro f0 h0
    obtain ⟨r, f', r1, r2, r3, r4⟩ := hd (g.set j f0) j f0 _ (gs f0) h0 (by omega) (by omega : min2 (min2 c1 c2) 5 < 1073741824)
    exact ⟨r, f', r1, r2, r3, by rw [r4, ss]⟩
  have l1 : rows.length < 16777216 := by omega
  have nx := names_ok i hi x mx
  have ny := names_ok i hi y my
  obtain ⟨r, f4, r1, r2, hf4, e4⟩ := mv f3 hf3
  by_cases hq : 0 < q3
  · refine ⟨f4, .str x, .val (.str y), .val (.int (min2 (min2 c1 c2) 5)), .tup [.str [109, 111, 118, 101], .str x, .str y, .int (1 + r)], hf4, .inl ⟨x, y, _, rfl, nx, ny, by omega, by omega⟩, ?_⟩
    simp [rowB, hb, hBook, rSt, e1, ex, e2, idx, fi, hlen, ey, k1, k2, fg, nz, truth, e3, hq, e4, MutK.ap, big, l1, -ap_e54, -ap_e52, -ap_e28]
  · by_cases ho : x = outN
    · refine ⟨f4, .str x, .val (.str y), .val (.int (min2 (min2 c1 c2) 5)), .tup [.str [109, 111, 118, 101], .str x, .str y, .int (1 + r)], hf4, .inl ⟨x, y, _, rfl, nx, ny, by omega, by omega⟩, ?_⟩
      have eo : eqD (.str x) (.str [111, 117, 116]) = some true := by rw [ho]; rfl
      simp [rowB, hb, hBook, rSt, e1, ex, e2, idx, fi, hlen, ey, k1, k2, fg, nz, truth, e3, hq, eo, e4, MutK.ap, big, l1, -ap_e54, -ap_e52, -ap_e28]
    · have cc := (caps_at i hi x mx).resolve_left ho
      obtain ⟨c3, g7, g8, g9⟩ := intIn_of cc
      have g7' : getK (capsG i) (.inr ⟨x.toArray⟩) = some (.int c3) := by
        cases z : getK (capsG i) (.inr ⟨x.toArray⟩) with
        | none => rw [z] at g7; cases g7
        | some d => rw [z] at g7; exact congrArg some g7
      have k3 : P.ap .ix [capsOf i, .str x] = some (.int c3) := by
        show getK (capsG i) (.inr ⟨x.toArray⟩) = _
        exact g7'
      obtain ⟨r5, f5, r6, r7, hf5, e5⟩ := hd (g.set j f3) j f3 (c3 + 1) (gs f3) hf3 (by omega) (by omega)
      rw [ss] at e5
      refine ⟨f5, .str x, .val (.str y), .val (.int (min2 (min2 c1 c2) 5)), .tup [.str [99, 111, 117, 110, 116], .str x, .int r5], hf5, .inr ⟨x, _, rfl, nx, by omega, by omega⟩, ?_⟩
      have eo : eqD (.str x) (.str [111, 117, 116]) = some false := by
        rw [eqD_str]; exact congrArg some (decide_eq_false ho)
      simp [rowB, hb, hBook, rSt, e1, ex, e2, idx, fi, hlen, ey, k1, k2, fg, nz, truth, e3, hq, eo, k3, e5, MutK.ap, big, l1, -ap_e54, -ap_e52, -ap_e28]
end Rf

set_option Elab.async false
set_option linter.all false
set_option maxRecDepth 100000
set_option maxHeartbeats 4000000
namespace Rf
open PySem PySem.Spec PyProof.Rows L2

theorem runs_app (T : Tbl) : ∀ (a b : List S) (st : Sx), runs T (a ++ b) st = match runs T a st with | .nx s => runs T b s | r => r
  | [], b, st => by simp
  | s :: a, b, st => by
    rw [List.cons_append, runs_cons, runs_cons]
    cases run T s st with
    | nx s1 => exact runs_app T a b s1
    | _ => rfl
theorem rows_run {T : Tbl} {kd : Nat} (hd : DrawOk (T kd)) {g : List Gd} {j : Nat} {n : Int} {i : Nat} (hi : i < 4) {pool : List D} {s7 : D} {found : List D} {s9 : Slot} {f : Gd} (h : j < g.length) (hf : Fd f) (h0 : 0 ≤ n) (hn : n ≤ 900) :
    ∃ f' s7' s9' s11' s12' rows, Fd f' ∧ (∀ r ∈ rows, RowD r) ∧ (rows.length : Int) = n ∧ runs T (((hb kd).drop 12).take 1) (rSt j n i pool s7 found s9 [] .none .none (g.set j f)) = .nx (rSt j n i pool s7' found s9' rows s11' s12' (g.set j f')) := by
  let P : Nat → Sx → Prop := fun q s => ∃ f' s7' s9' s11' s12' rows, s = rSt j n i pool s7' found s9' rows s11' s12' (g.set j f') ∧ Fd f' ∧ (∀ r ∈ rows, RowD r) ∧ rows.length = q
  obtain ⟨s', es, f', s7', s9', s11', s12', rows, rfl, q1, q2, q3⟩ := loop_inv (b := bindP (.nm 9)) (f := runs T (rowB kd)) P (rangeD 0 n.toNat) 0 (rSt j n i pool s7 found s9 [] .none .none (g.set j f)) ⟨f, s7, s9, .none, .none, [], rfl, hf, by simp, rfl⟩ (by
    rintro q x s hx ⟨f', s7', s9', s11', s12', rows, rfl, q1, q2, q3⟩
    obtain ⟨hq, rfl⟩ := rangeD_at _ _ _ _ hx
    rw [Nat.zero_add] at q3
    obtain ⟨f2, t7, t11, t12, row, hf2, hr, e⟩ := row_step (pool := pool) (s7 := s7') (found := found) (rows := rows) (s9 := .val (.int (0 + (q : Int)))) (s11 := s11') (s12 := s12') (n := n) hd hi h q1 (by omega)
    refine ⟨_, rSt j n i pool t7 found (.val (.int (0 + (q : Int)))) (rows ++ [row]) t11 t12 (g.set j f2), rfl, .inl e, f2, t7, _, t11, t12, _, rfl, hf2, ?_, by simp [q3]⟩
    intro r hr2
    rcases List.mem_append.mp hr2 with z | z
    · exact q2 r z
    · rw [show r = row by simpa using z]; exact hr)
  have rl : (rangeD 0 n.toNat).length = n.toNat := rangeD_len _ _
  refine ⟨f', s7', s9', s11', s12', rows, q1, q2, by rw [q3, rl]; omega, ?_⟩
  have hs : ((hb kd).drop 12).take 1 = [.forS (.nm 9) .rng [(.var 1)] (rowB kd)] := rfl
  rw [hs, runs_cons, run_for]
  have hv : evs T [(.var 1)] (rSt j n i pool s7 found s9 [] .none .none (g.set j f)) = .ok [.int n] (rSt j n i pool s7 found s9 [] .none .none (g.set j f)) := by simp [rSt]
  have rg : ItK.rng.get [.int n] = some (rangeD 0 n.toNat) := by
    simp only [ItK.get]
    rw [if_pos ⟨by omega, by omega⟩]
  rw [hv]
  simp only [onE_ok, rg, es, runs_nil]
theorem CostD.sm {c : D} (h : CostD c) : Sm 1 20 4 c := by
  obtain ⟨a, b, n, rfl, h1, h2, h3, h4⟩ := h
  refine .mk (by simp) fun x hx => ?_
  simp only [List.mem_cons, List.not_mem_nil, or_false] at hx
  rcases hx with rfl | rfl | rfl
  · exact ⟨by have := h1.1; omega, h1.2⟩
  · exact ⟨by have := h2.1; omega, h2.2⟩
  · exact (by omega : n.natAbs ≤ 20)
theorem RowD.sm {c : D} (h : RowD c) : Sm 1 20 4 c := by
  rcases h with ⟨a, b, n, rfl, h1, h2, h3, h4⟩ | ⟨a, n, rfl, h1, h3, h4⟩
  · refine .mk (by simp) fun x hx => ?_
    simp only [List.mem_cons, List.not_mem_nil, or_false] at hx
    rcases hx with rfl | rfl | rfl | rfl
    · exact (by simp [Sm, Sc])
    · exact ⟨by have := h1.1; omega, h1.2⟩
    · exact ⟨by have := h2.1; omega, h2.2⟩
    · exact (by omega : n.natAbs ≤ 20)
  · refine .mk (by simp) fun x hx => ?_
    simp only [List.mem_cons, List.not_mem_nil, or_false] at hx
    rcases hx with rfl | rfl | rfl
    · exact (by simp [Sm, Sc])
    · exact ⟨by have := h1.1; omega, h1.2⟩
    · exact (by omega : n.natAbs ≤ 20)
theorem sort_costs {xs : List D} (h : ∀ c ∈ xs, CostD c) (hl : xs.length ≤ 20) : ∃ ys, sortD xs = some ys ∧ (∀ c ∈ ys, CostD c) ∧ ys.length = xs.length := by
  refine ⟨xs.mergeSort (PySem.W.dataLe false toP), ?_, fun c hc => h c (List.mem_mergeSort.mp hc), List.length_mergeSort _⟩
  unfold sortD
  rw [if_pos]
  have al : alikeL xs = true := by
    unfold alikeL
    rw [List.all_eq_true]
    intro a ha
    rw [List.all_eq_true]
    intro b hb
    obtain ⟨a1, a2, a3, rfl, _⟩ := h a ha
    obtain ⟨b1, b2, b3, rfl, _⟩ := h b hb
    rfl
  have tp : xs.all isTupC = true := by
    rw [List.all_eq_true]
    intro a ha
    obtain ⟨a1, a2, a3, rfl, _⟩ := h a ha
    rfl
  have gd : xs.all (fun a => (toP a).canLay0 && decide ((toP a).depth ≤ 30)) = true := by
    rw [List.all_eq_true]
    intro a ha
    obtain ⟨h1, _, h3, _⟩ := Sm.good (by decide) (h a ha).sm
    rw [h1, Bool.true_and, decide_eq_true_eq]
    omega
  have lb : xs.length ≤ big := by have : (big : Nat) = 16777216 := rfl
                                  omega
  rw [al, tp, gd]
  simp [lb]
def SlipD (d : D) : Prop := d = .non ∨ d = .int 4 ∨ d = .int 1 ∨ d = .int 9
theorem book_ok {T : Tbl} {kd : Nat} (hd : DrawOk (T kd)) {g : List Gd} {j : Nat} {f : Gd} {n : Int} (h : g[j]? = some f) (hf : Fd f) (h0 : 0 ≤ n) (hn : n ≤ 900) :
    ∃ i costs slip rows f', i < 4 ∧ (∀ c ∈ costs, CostD c) ∧ costs.length ≤ 20 ∧ SlipD slip ∧ (∀ r ∈ rows, RowD r) ∧ (rows.length : Int) = n ∧ Fd f' ∧
      mirror T (hBook kd) [.glb j, .val (.int n)] g = .ret (.tup [.tup (menu i), .tup costs, slip, .tup rows]) (g.set j f') := by
  have hj : j < g.length := (List.getElem?_eq_some_iff.mp h).1
  have gs : ∀ x : Gd, (g.set j x)[j]? = some x := fun x => List.getElem?_set_self hj
  have ss : ∀ x y : Gd, (g.set j x).set j y = g.set j y := fun x y => by rw [List.set_set]
  obtain ⟨i, f1, hi, hf1, e1⟩ := book_a (n := n) hd h hf
  have e2 := book_b1 T kd (g.set j f1) j n i hi
  have e3 := book_b2 T kd (g.set j f1) j n i hi
  obtain ⟨pool, found, s9, f2, hf2, hc, hl, e4⟩ := costs_run (n := n) (i := i) (s7 := .str outN) hd (gs f1) hf1 (pool_ok i hi) (pool_len i hi)
  rw [ss] at e4
  obtain ⟨f3, s7', s9', s11', s12', rows, hf3, hr, hrl, e6⟩ := rows_run (n := n) (i := i) (pool := pool) (s7 := .str outN) (found := found) (s9 := s9) hd hi hj hf2 h0 hn
  obtain ⟨r, f4, r1, r2, hf4, e7⟩ := hd (g.set j f3) j f3 4 (gs f3) hf3 (by decide) (by decide)
  rw [ss] at e7
  obtain ⟨ys, sy, hy, ly⟩ := sort_costs hc hl
  obtain ⟨sl, esl, msl⟩ := ix_lst (xs := [.non, .int 4, .int 1, .int 9]) r1 (by simpa using r2)
  refine ⟨i, ys, sl, rows, f4, hi, hy, by omega, by simpa [SlipD] using msl, hr, hrl, hf4, ?_⟩
  have body : (hBook kd).body = (hb kd).take 4 ++ (((hb kd).drop 4).take 2 ++ (((hb kd).drop 6).take 2 ++ (((hb kd).drop 8).take 1 ++ (((hb kd).drop 9).take 3 ++ (((hb kd).drop 12).take 1 ++ (hb kd).drop 13))))) := rfl
  have e5 : runs T (((hb kd).drop 9).take 3) (cSt j n i pool (.str outN) found s9 (g.set j f2)) = .nx (rSt j n i pool (.str outN) found s9 [] .none .none (g.set j f2)) := by
    simp [hb, hBook, cSt, rSt, big]
  have e8 : runs T ((hb kd).drop 13) (rSt j n i pool s7' found s9' rows s11' s12' (g.set j f3)) = .ret (.tup [.tup (menu i), .tup ys, sl, .tup rows]) ⟨[.glb j, .val (.int n), .val menus, .val (.tup (menu i)), .val (capsOf i), .val (.lst ((namesOf i).map .str)), .val (.lst pool), .val s7', .val (.lst found), s9', .val (.lst rows), s11', s12', .none], g.set j f4⟩ := by
    simp [hb, hBook, rSt, sy, e7, esl, big]
  have m : mirror T (hBook kd) [.glb j, .val (.int n)] g = cutG g.length (runs T (hBook kd).body ⟨[.glb j, .val (.int n), .none, .none, .none, .none, .none, .none, .none, .none, .none, .none, .none, .none], g⟩) := rfl
  rw [m, body, runs_app, e1]
  simp only
  rw [runs_app, e2]
  simp only
  rw [runs_app, e3]
  simp only
  rw [runs_app]
  have e4' : runs T (((hb kd).drop 8).take 1) ⟨[.glb j, .val (.int n), .val menus, .val (.tup (menu i)), .val (capsOf i), .val (.lst ((namesOf i).map .str)), .own (poolOf (namesOf i)), .val (.str outN), .own [], .none, .none, .none, .none, .none], g.set j f1⟩ = .nx (cSt j n i pool (.str outN) found s9 (g.set j f2)) := e4
  rw [e4']
  simp only
  rw [runs_app, e5]
  simp only
  rw [runs_app, e6]
  simp only
  rw [e8]
  simp [cutG, take_set]
end Rf

set_option Elab.async false
set_option linter.all false
set_option maxRecDepth 100000
set_option maxHeartbeats 4000000
namespace Rf
open PySem PySem.Spec PyProof.Rows L2
namespace K01
def top (i : Nat) : Stmt := PySem.Challenge.pw_unbooked_k01_kinds_told.main.body.getD i (.Pass ⟨0, 0, 0, 0⟩)
/-- is_integer -/
def d0 : Def := ⟨"is_integer", ["thing"], ["thing"], [.ret (.and (.prim (.isa .int) [(.var 0)]) (.not (.prim (.isa .bool) [(.var 0)])))]⟩
/-- is_number -/
def d1 : Def := ⟨"is_number", ["thing"], ["thing"], [.ret (.and (.call 0 [(.var 0)]) (.prim .ge [(.var 0), (.kint 0)]))]⟩
/-- is_amount -/
def d2 : Def := ⟨"is_amount", ["thing"], ["thing"], [.ret (.and (.call 1 [(.var 0)]) (.prim .gt [(.var 0), (.kint 0)]))]⟩
/-- is_name -/
def d3 : Def := ⟨"is_name", ["thing"], ["thing", "sign"], [.ifS (.or (.not (.prim (.isa .str) [(.var 0)])) (.not (.chain .le .le (.kint 1) (.prim .len [(.var 0)]) (.glo "LONGEST" (D.int 8))))) [.ret (.kbl false)] [], .ret (.prim .all [(.comp (.prim .isin [(.var 1), (.glo "LETTERS" (D.str [97, 98, 99, 100, 101, 102, 103, 104, 105, 106, 107, 108, 109, 110, 111, 112, 113, 114, 115, 116, 117, 118, 119, 120, 121, 122]))]) (.nm 1) .str [(.var 0)] [] [1])])]⟩
/-- is_place_name -/
def d4 : Def := ⟨"is_place_name", ["thing"], ["thing"], [.ret (.and (.call 3 [(.var 0)]) (.prim .ne [(.var 0), (.glo "OUTSIDE" (D.str [111, 117, 116]))]))]⟩
/-- are_two_names -/
def d5 : Def := ⟨"are_two_names", ["one", "other"], ["one", "other"], [.ret (.and (.call 3 [(.var 0)]) (.and (.call 3 [(.var 1)]) (.prim .ne [(.var 0), (.var 1)])))]⟩
/-- is_place -/
def d6 : Def := ⟨"is_place", ["thing"], ["thing"], [.ifS (.or (.not (.prim (.isa .tuple) [(.var 0)])) (.or (.prim .ne [(.prim .len [(.var 0)]), (.kint 3)]) (.not (.call 4 [(.prim .ix [(.var 0), (.kint 0)])])))) [.ret (.kbl false)] [], .ret (.and (.call 1 [(.prim .ix [(.var 0), (.kint 1)])]) (.and (.call 1 [(.prim .ix [(.var 0), (.kint 2)])]) (.prim .le [(.prim .ix [(.var 0), (.kint 1)]), (.prim .ix [(.var 0), (.kint 2)])])))]⟩
/-- is_cost -/
def d7 : Def := ⟨"is_cost", ["thing"], ["thing"], [.ret (.and (.prim (.isa .tuple) [(.var 0)]) (.and (.prim .eq [(.prim .len [(.var 0)]), (.kint 3)]) (.and (.call 5 [(.prim .ix [(.var 0), (.kint 0)]), (.prim .ix [(.var 0), (.kint 1)])]) (.call 2 [(.prim .ix [(.var 0), (.kint 2)])]))))]⟩
/-- is_row -/
def d8 : Def := ⟨"is_row", ["thing"], ["thing"], [.ifS (.or (.not (.prim (.isa .tuple) [(.var 0)])) (.or (.prim .eq [(.prim .len [(.var 0)]), (.kint 0)]) (.not (.prim (.isa .str) [(.prim .ix [(.var 0), (.kint 0)])])))) [.ret (.kbl false)] [], .matchS (.prim .ix [(.var 0), (.kint 0)]) [.caseK [109, 111, 118, 101] [.ret (.and (.prim .eq [(.prim .len [(.var 0)]), (.kint 4)]) (.and (.call 5 [(.prim .ix [(.var 0), (.kint 1)]), (.prim .ix [(.var 0), (.kint 2)])]) (.call 2 [(.prim .ix [(.var 0), (.kint 3)])])))], .caseK [99, 111, 117, 110, 116] [.ret (.and (.prim .eq [(.prim .len [(.var 0)]), (.kint 3)]) (.and (.call 4 [(.prim .ix [(.var 0), (.kint 1)])]) (.call 1 [(.prim .ix [(.var 0), (.kint 2)])])))], .caseD [.ret (.kbl false)]]]⟩
/-- _law_feed -/
def d9 : Def := ⟨"_law_feed", ["_law_script"], ["_law_script"], [.retDic [(.inr "cells"), (.inr "at"), (.inr "left"), (.inr "count")] [(.prim .list [(.cut (.var 0) [] [(.kint 63)])]), (.kint 0), (.kint 0), (.kint 0)]]⟩
/-- _law_draw -/
def d10 : Def := ⟨"_law_draw", ["_law_feed_here", "_law_many"], ["_law_feed_here", "_law_many", "_law_at", "_law_cell", "_law_mixed", "_law_digit"], [.gset 0 (.inr "count") (.prim .add [(.gget 0 (.inr "count")), (.kint 1)]), .ifS (.prim .gt [(.gget 0 (.inr "left")), (.kint 0)]) [.set (.nm 5) (.prim .mod [(.prim .int [(.gget 0 (.inr "left"))]), (.var 1)]), .gset 0 (.inr "left") (.prim .fdiv [(.gget 0 (.inr "left")), (.var 1)]), .ret (.var 5)] [], .set (.nm 2) (.gget 0 (.inr "at")), .gset 0 (.inr "at") (.prim .add [(.var 2), (.kint 1)]), .set (.nm 3) (.ite (.prim .ne [(.gget 0 (.inr "cells")), (.lst [])]) (.prim .ix [(.gget 0 (.inr "cells")), (.prim .mod [(.prim .int [(.var 2)]), (.prim .len [(.gget 0 (.inr "cells"))])])]) (.kint 71)), .ifS (.and (.prim .ge [(.var 3), (.prim .pow [(.kint 10), (.kint 18)])]) (.prim .lt [(.var 2), (.prim .len [(.gget 0 (.inr "cells"))])])) [.gset 0 (.inr "left") (.prim .fdiv [(.var 3), (.var 1)]), .ret (.prim .mod [(.prim .int [(.var 3)]), (.var 1)])] [], .set (.nm 4) (.prim .mod [(.prim .int [(.prim .add [(.prim .add [(.prim .mod [(.prim .int [(.var 3)]), (.kint 1000000289)]), (.prim .mul [(.kint 140009), (.gget 0 (.inr "count"))])]), (.kint 73)])]), (.kint 2147483269)]), .set (.nm 4) (.prim .mod [(.prim .int [(.prim .add [(.prim .add [(.prim .mul [(.var 4), (.var 4)]), (.prim .mul [(.kint 4300007), (.gget 0 (.inr "count"))])]), (.kint 37)])]), (.kint 2147483249)]), .ret (.prim .mod [(.prim .int [(.prim .fdiv [(.prim .mod [(.prim .int [(.prim .add [(.prim .mul [(.var 4), (.var 4)]), (.prim .mul [(.kint 103), (.var 4)])])]), (.kint 2147483237)]), (.kint 16)])]), (.var 1)])]⟩
/-- _law_whole -/
def d11 : Def := ⟨"_law_whole", ["_law_item"], ["_law_item"], [.ret (.and (.prim (.isa .int) [(.var 0)]) (.not (.prim (.isa .bool) [(.var 0)])))]⟩
/-- _law_count -/
def d12 : Def := ⟨"_law_count", ["_law_item"], ["_law_item"], [.ret (.and (.call 11 [(.var 0)]) (.prim .ge [(.var 0), (.kint 0)]))]⟩
/-- _law_named -/
def d13 : Def := ⟨"_law_named", ["_law_item"], ["_law_item", "_law_sign"], [.ifS (.or (.not (.prim (.isa .str) [(.var 0)])) (.not (.chain .lt .lt (.kint 0) (.prim .len [(.var 0)]) (.kint 9)))) [.ret (.kbl false)] [], .ret (.prim .eq [(.comp (.var 1) (.nm 1) .str [(.var 0)] [(.not (.chain .le .le (.kint 97) (.prim .ord [(.var 1)]) (.kint 122)))] [1]), (.lst [])])]⟩
/-- _law_placed -/
def d14 : Def := ⟨"_law_placed", ["_law_item"], ["_law_item"], [.ifS (.or (.not (.prim (.isa .tuple) [(.var 0)])) (.or (.prim .ne [(.prim .len [(.var 0)]), (.kint 3)]) (.or (.not (.call 13 [(.prim .ix [(.var 0), (.kint 0)])])) (.prim .eq [(.prim .ix [(.var 0), (.kint 0)]), (.kstr [111, 117, 116])])))) [.ret (.kbl false)] [], .ret (.and (.call 12 [(.prim .ix [(.var 0), (.kint 1)])]) (.and (.call 12 [(.prim .ix [(.var 0), (.kint 2)])]) (.prim .le [(.prim .ix [(.var 0), (.kint 1)]), (.prim .ix [(.var 0), (.kint 2)])])))]⟩
/-- _law_priced -/
def d15 : Def := ⟨"_law_priced", ["_law_item"], ["_law_item"], [.ifS (.or (.not (.prim (.isa .tuple) [(.var 0)])) (.or (.prim .ne [(.prim .len [(.var 0)]), (.kint 3)]) (.or (.not (.call 13 [(.prim .ix [(.var 0), (.kint 0)])])) (.not (.call 13 [(.prim .ix [(.var 0), (.kint 1)])]))))) [.ret (.kbl false)] [], .ret (.and (.prim .ne [(.prim .ix [(.var 0), (.kint 0)]), (.prim .ix [(.var 0), (.kint 1)])]) (.and (.call 11 [(.prim .ix [(.var 0), (.kint 2)])]) (.prim .gt [(.prim .ix [(.var 0), (.kint 2)]), (.kint 0)])))]⟩
/-- _law_rowed -/
def d16 : Def := ⟨"_law_rowed", ["_law_item"], ["_law_item", "_law_names"], [.ifS (.or (.not (.prim (.isa .tuple) [(.var 0)])) (.or (.prim .eq [(.var 0), (.tup [])]) (.not (.prim (.isa .str) [(.prim .ix [(.var 0), (.kint 0)])])))) [.ret (.kbl false)] [], .ifS (.and (.prim .eq [(.prim .ix [(.var 0), (.kint 0)]), (.kstr [109, 111, 118, 101])]) (.prim .eq [(.prim .len [(.var 0)]), (.kint 4)])) [.set (.nm 1) (.and (.call 13 [(.prim .ix [(.var 0), (.kint 1)])]) (.and (.call 13 [(.prim .ix [(.var 0), (.kint 2)])]) (.prim .ne [(.prim .ix [(.var 0), (.kint 1)]), (.prim .ix [(.var 0), (.kint 2)])]))), .ret (.and (.var 1) (.and (.call 11 [(.prim .ix [(.var 0), (.kint 3)])]) (.prim .gt [(.prim .ix [(.var 0), (.kint 3)]), (.kint 0)])))] [], .ifS (.or (.prim .ne [(.prim .ix [(.var 0), (.kint 0)]), (.kstr [99, 111, 117, 110, 116])]) (.prim .ne [(.prim .len [(.var 0)]), (.kint 3)])) [.ret (.kbl false)] [], .ret (.and (.call 13 [(.prim .ix [(.var 0), (.kint 1)])]) (.and (.prim .ne [(.prim .ix [(.var 0), (.kint 1)]), (.kstr [111, 117, 116])]) (.call 12 [(.prim .ix [(.var 0), (.kint 2)])])))]⟩
/-- _law_book -/
def d17 : Def := ⟨"_law_book", ["_law_feed_here", "_law_size"], ["_law_feed_here", "_law_size", "_law_menus", "_law_spots", "_law_caps", "_law_names", "_law_pool", "_law_name", "_law_found", "_law_k", "_law_rows_in", "_law_late", "_law_most", "_law_own"], [.setOwn 2 (.lst [(.tup [(.tup [(.kstr [115, 104, 101, 108, 102]), (.kint 3), (.kint 9)]), (.tup [(.kstr [115, 116, 111, 114, 101]), (.kint 8), (.kint 20)])]), (.tup [(.tup [(.kstr [97]), (.kint 0), (.kint 4)])]), (.tup [(.tup [(.kstr [98]), (.kint 1), (.kint 5)]), (.tup [(.kstr [99, 111, 117, 110, 116]), (.kint 2), (.kint 2)]), (.tup [(.kstr [109, 111, 118, 101]), (.kint 0), (.kint 7)])])]), .drop (.mutl .append 2 [(.tup [(.tup [(.kstr [112]), (.kint 0), (.kint 1)]), (.tup [(.kstr [113]), (.kint 5), (.kint 5)]), (.tup [(.kstr [114]), (.kint 2), (.kint 6)]), (.tup [(.kstr [122, 122, 122, 122, 122, 122, 122, 122]), (.kint 19), (.kint 20)])])]), .freeze 2, .set (.nm 3) (.prim .ix [(.var 2), (.call 10 [(.gv 0), (.kint 4)])]), .set (.nm 4) (.prim .dict [(.comp (.tup [(.prim .ix [(.var 13), (.kint 0)]), (.prim .ix [(.var 13), (.kint 2)])]) (.nm 13) .seq [(.var 3)] [] [13])]), .par 5 6 false true (.prim .add [(.comp (.prim .ix [(.var 13), (.kint 0)]) (.nm 13) .seq [(.var 3)] [] [13]), (.lst [(.kstr [111, 117, 116])])]) (.lst []), .forS (.nm 7) .seq [(.var 5)] [.drop (.mutl .extend 6 [(.comp (.tup [(.var 7), (.var 11)]) (.nm 11) .seq [(.var 5)] [(.prim .ne [(.var 11), (.var 7)])] [11])])], .setOwn 8 (.lst []), .forS (.nm 9) .rng [(.prim .min [(.prim .len [(.own 6)]), (.call 10 [(.gv 0), (.kint 6)])])] [.drop (.mutl .append 8 [(.prim .add [(.mutl .pop 6 [(.call 10 [(.gv 0), (.prim .len [(.own 6)])])]), (.tup [(.prim .add [(.kint 1), (.call 10 [(.gv 0), (.kint 9)])])])])])], .freeze 8, .freeze 6, .setOwn 10 (.lst []), .forS (.nm 9) .rng [(.var 1)] [.set (.nm 7) (.prim .ix [(.var 5), (.call 10 [(.gv 0), (.prim .len [(.var 5)])])]), .set (.nm 11) (.prim .ix [(.var 5), (.prim .mod [(.prim .int [(.prim .add [(.prim .add [(.mth .index (.var 5) [(.var 7)]), (.kint 1)]), (.call 10 [(.gv 0), (.prim .sub [(.prim .len [(.var 5)]), (.kint 1)])])])]), (.prim .len [(.var 5)])])]), .set (.nm 12) (.prim .min [(.mth .get (.var 4) [(.var 7), (.kint 5)]), (.mth .get (.var 4) [(.var 11), (.kint 5)]), (.kint 5)]), .ifS (.or (.prim .gt [(.call 10 [(.gv 0), (.kint 2)]), (.kint 0)]) (.prim .eq [(.var 7), (.kstr [111, 117, 116])])) [.drop (.mutl .append 10 [(.tup [(.kstr [109, 111, 118, 101]), (.var 7), (.var 11), (.prim .add [(.kint 1), (.call 10 [(.gv 0), (.var 12)])])])])] [.drop (.mutl .append 10 [(.tup [(.kstr [99, 111, 117, 110, 116]), (.var 7), (.call 10 [(.gv 0), (.prim .add [(.prim .ix [(.var 4), (.var 7)]), (.kint 1)])])])])]], .freeze 10, .ret (.tup [(.var 3), (.prim .tuple [(.prim .sorted [(.var 8)])]), (.prim .ix [(.lst [.knon, (.kint 4), (.kint 1), (.kint 9)]), (.call 10 [(.gv 0), (.kint 4)])]), (.prim .tuple [(.var 10)])])]⟩
/-- _law_odd -/
def d18 : Def := ⟨"_law_odd", ["_law_feed_here"], ["_law_feed_here", "_law_odd_here"], [.set (.nm 1) (.lst [.knon, (.kbl true), (.kbl false), (.kint 0), (.prim .neg [(.kint 1)]), (.kint 1), (.kstr []), (.kstr [111, 117, 116]), (.kstr [115, 104, 101, 108, 102]), (.kstr [109, 111, 118, 101]), (.tup []), (.lst []), (.tup [(.kstr [97]), (.kint 0), (.kint 1)]), (.tup [(.kstr [99, 111, 117, 110, 116]), (.kstr [97]), (.kint 0)]), (.kint 5), (.tup [(.kstr [97])])]), .ret (.prim .ix [(.var 1), (.call 10 [(.gv 0), (.kint 16)])])]⟩
/-- _law_bent -/
def d19 : Def := ⟨"_law_bent", ["_law_feed_here", "_law_item"], ["_law_feed_here", "_law_item", "_law_way", "_law_at", "_law_some"], [.ifS (.and (.prim (.isa .tuple) [(.var 1)]) (.and (.prim .ne [(.var 1), (.tup [])]) (.prim .gt [(.call 10 [(.gv 0), (.kint 6)]), (.kint 0)]))) [.set (.nm 3) (.call 10 [(.gv 0), (.prim .len [(.var 1)])]), .ret (.prim .add [(.prim .add [(.cut (.var 1) [] [(.var 3)]), (.tup [(.call 19 [(.gv 0), (.prim .ix [(.var 1), (.var 3)])])])]), (.cut (.var 1) [(.prim .add [(.var 3), (.kint 1)])] [])])] [], .set (.nm 2) (.call 10 [(.gv 0), (.kint 9)]), .ifS (.and (.prim (.isa .tuple) [(.var 1)]) (.prim .lt [(.var 2), (.kint 7)])) [.set (.nm 4) (.lst [(.prim .list [(.var 1)]), (.cut (.var 1) [(.kint 1)] []), (.cut (.var 1) [] [(.prim .neg [(.kint 1)])]), (.prim .add [(.var 1), (.cut (.var 1) [(.prim .neg [(.kint 1)])] [])])]), .ret (.prim .ix [(.prim .add [(.var 4), (.lst [(.stp (.var 1) [] (-1)), (.tup [(.var 1)]), (.prim .add [(.var 1), (.tup [.knon])])])]), (.var 2)])] [], .ifS (.and (.prim (.isa .str) [(.var 1)]) (.prim .lt [(.var 2), (.kint 6)])) [.ret (.prim .ix [(.lst [(.prim .add [(.var 1), (.kstr [97])]), (.cut (.var 1) [] [(.prim .neg [(.kint 1)])]), (.mth .upper (.var 1) []), (.prim .add [(.var 1), (.kstr [32])]), (.lst [(.var 1)]), (.prim .add [(.var 1), (.kstr [97, 98, 99, 100, 101, 102, 103, 104])])]), (.var 2)])] [], .ifS (.and (.prim (.isa .int) [(.var 1)]) (.prim .lt [(.var 2), (.kint 6)])) [.ret (.prim .ix [(.lst [(.prim .add [(.var 1), (.kint 1)]), (.prim .sub [(.var 1), (.kint 1)]), (.prim .eq [(.var 1), (.kint 1)]), (.prim .str [(.var 1)]), (.prim .sub [(.kint 0), (.var 1)]), (.lst [(.var 1)])]), (.var 2)])] [], .ret (.call 18 [(.gv 0)])]⟩
/-- _law_right -/
def d20 : Def := ⟨"_law_right", ["_law_item"], ["_law_item", "_law_told", "_law_due_in"], [.set (.nm 1) (.lst [(.call 0 [(.var 0)]), (.call 1 [(.var 0)]), (.call 3 [(.var 0)]), (.call 6 [(.var 0)]), (.call 7 [(.var 0)]), (.call 8 [(.var 0)])]), .set (.nm 2) (.lst [(.call 11 [(.var 0)]), (.call 12 [(.var 0)]), (.call 13 [(.var 0)]), (.call 14 [(.var 0)]), (.call 15 [(.var 0)])]), .ret (.prim .eq [(.prim .repr [(.var 1)]), (.prim .repr [(.prim .add [(.var 2), (.lst [(.call 16 [(.var 0)])])])])])]⟩
/-- _law_values -/
def d21 : Def := ⟨"_law_values", [], ["_law_far", "_law_found"], [.set (.nm 0) (.prim .pow [(.kint 10), (.kint 59)]), .setOwn 1 (.lst [(.kint 0), (.kint 1), (.prim .neg [(.kint 1)]), (.var 0), (.prim .neg [(.var 0)]), (.kbl true), (.kbl false), .knon, (.kstr []), (.kstr [97]), (.kstr [97, 98, 99, 100, 101, 102, 103, 104]), (.kstr [97, 98, 99, 100, 101, 102, 103, 104, 105]), (.kstr [65]), (.kstr [97, 32, 98]), (.kstr [97, 49]), (.kstr [96]), (.kstr [123]), (.kstr [122])]), .drop (.mutl .extend 1 [(.lst [(.kstr [111, 117, 116]), (.prim .mul [(.kstr [97]), (.kint 900)]), (.tup []), (.lst []), (.tup [(.kstr [97])]), (.tup [(.kstr [97]), (.kint 0)]), (.tup [(.kstr [97]), (.kint 0), (.kint 0)]), (.tup [(.kstr [97]), (.kint 1), (.kint 0)]), (.tup [(.kstr [97]), (.kint 3), (.kint 3)]), (.tup [(.kstr [97]), (.kint 3), (.var 0)])])]), .drop (.mutl .extend 1 [(.lst [(.tup [(.kstr [111, 117, 116]), (.kint 0), (.kint 1)]), (.tup [(.kstr [65]), (.kint 0), (.kint 1)]), (.lst [(.kstr [97]), (.kint 0), (.kint 1)]), (.tup [(.kstr [97]), (.prim .neg [(.kint 1)]), (.kint 1)]), (.tup [(.kstr [97]), (.kbl true), (.kint 1)])])]), .drop (.mutl .extend 1 [(.lst [(.tup [(.kstr [97]), (.kint 0), (.kbl true)]), (.tup [(.kstr [97]), (.kint 0), .knon])])]), .drop (.mutl .extend 1 [(.lst [(.tup [(.kstr [97]), (.kint 0), (.kint 1), (.kint 2)]), (.tup [(.kint 1), (.kint 0), (.kint 1)]), (.tup [(.kstr []), (.kint 0), (.kint 1)]), (.tup [(.kstr [97]), (.kstr [48]), (.kint 1)]), (.tup [(.kstr [97]), (.kstr [98]), (.kint 1)]), (.tup [(.kstr [97]), (.kstr [98]), (.kint 0)]), (.tup [(.kstr [97]), (.kstr [98]), (.var 0)])])]), .drop (.mutl .extend 1 [(.lst [(.tup [(.kstr [97]), (.kstr [97]), (.kint 1)]), (.tup [(.kstr [111, 117, 116]), (.kstr [97]), (.kint 1)]), (.tup [(.kstr [97]), (.kstr [111, 117, 116]), (.kint 1)]), (.tup [(.kstr [111, 117, 116]), (.kstr [111, 117, 116]), (.kint 1)]), (.tup [(.kstr [97]), (.kstr [98]), (.kbl true)]), (.tup [(.kstr [97]), (.kstr [98]), (.prim .neg [(.kint 1)])])])]), .drop (.mutl .extend 1 [(.lst [(.tup [(.kstr [97]), (.kstr [66]), (.kint 1)]), (.tup [(.kstr [97]), (.kint 1), (.kstr [98])]), (.lst [(.kstr [97]), (.kstr [98]), (.kint 1)]), (.tup [(.kstr [97]), (.kstr [98]), .knon]), (.tup [(.kstr [97]), (.kstr [98])])])]), .drop (.mutl .extend 1 [(.lst [(.tup [(.kstr [97]), (.kstr [98]), (.kint 1), (.kint 1)]), (.tup [.knon, (.kstr [98]), (.kint 1)])])]), .drop (.mutl .extend 1 [(.lst [(.tup [(.kstr [109, 111, 118, 101]), (.kstr [97]), (.kstr [98]), (.kint 1)]), (.tup [(.kstr [109, 111, 118, 101]), (.kstr [97]), (.kstr [97]), (.kint 1)]), (.tup [(.kstr [109, 111, 118, 101]), (.kstr [97]), (.kstr [98]), (.kint 0)])])]), .drop (.mutl .extend 1 [(.lst [(.tup [(.kstr [109, 111, 118, 101]), (.kstr [111, 117, 116]), (.kstr [98]), (.kint 2)]), (.tup [(.kstr [109, 111, 118, 101]), (.kstr [97]), (.kstr [98])])])]), .drop (.mutl .extend 1 [(.lst [(.tup [(.kstr [109, 111, 118, 101]), (.kstr [97]), (.kstr [111, 117, 116]), (.kint 1)]), (.tup [(.kstr [109, 111, 118, 101]), (.kstr [111, 117, 116]), (.kstr [111, 117, 116]), (.kint 1)]), (.tup [(.kstr [109, 111, 118, 101]), (.kstr [97]), (.kstr [98]), (.kbl true)]), (.tup [(.kstr [109, 111, 118, 101]), (.kstr [97]), (.kstr [98]), (.prim .neg [(.kint 1)])])])]), .drop (.mutl .extend 1 [(.lst [(.lst [(.kstr [109, 111, 118, 101]), (.kstr [97]), (.kstr [98]), (.kint 1)]), (.tup [(.kstr [109, 111, 118, 101]), (.kstr [97]), (.kstr [98]), (.kint 1), (.kint 1)]), (.tup [(.kstr [77, 111, 118, 101]), (.kstr [97]), (.kstr [98]), (.kint 1)])])]), .drop (.mutl .extend 1 [(.lst [(.tup [(.kstr [109, 111, 118, 101]), (.kstr [65]), (.kstr [98]), (.kint 1)]), (.tup [(.kstr [109, 111, 118, 101])])])]), .drop (.mutl .extend 1 [(.lst [(.tup [(.kstr [109, 111, 118, 101]), (.kstr [97]), .knon, (.kint 1)]), (.tup [(.kstr [109, 111, 118, 101]), (.kstr [97]), (.kstr [98]), (.kstr [49])]), (.tup [(.kstr [99, 111, 117, 110, 116]), (.kstr [97]), (.kint 0)])])]), .drop (.mutl .extend 1 [(.lst [(.tup [(.kstr [99, 111, 117, 110, 116]), (.kstr [97]), (.var 0)]), (.tup [(.kstr [99, 111, 117, 110, 116]), (.kstr [97]), (.prim .neg [(.kint 1)])])])]), .drop (.mutl .extend 1 [(.lst [(.tup [(.kstr [99, 111, 117, 110, 116]), (.kstr [111, 117, 116]), (.kint 0)]), (.tup [(.kstr [99, 111, 117, 110, 116]), (.kstr [97]), (.kbl true)]), (.tup [(.kstr [99, 111, 117, 110, 116]), (.kstr [97]), (.kstr [98]), (.kint 1)])])]), .drop (.mutl .extend 1 [(.lst [(.tup [(.kstr [99, 111, 117, 110, 116]), (.kstr [97])]), (.tup [(.kstr [99, 111, 117, 110, 116]), (.kstr [99, 111, 117, 110, 116]), (.kint 3)])])]), .drop (.mutl .extend 1 [(.lst [(.lst [(.kstr [99, 111, 117, 110, 116]), (.kstr [97]), (.kint 0)]), (.tup [(.kstr [99, 111, 117, 110, 116]), (.kint 0), (.kstr [97])]), (.tup [(.kstr [99, 111, 117, 110, 116]), (.kstr []), (.kint 0)]), (.tup [(.kstr [99, 111, 117, 110, 116]), (.kstr [97]), .knon])])]), .drop (.mutl .extend 1 [(.lst [(.tup [(.kstr [99, 111, 117, 110, 116]), (.kstr [97]), (.kint 0), (.kint 0)]), (.tup [(.kstr [111, 117, 116]), (.kint 0)])])]), .drop (.mutl .extend 1 [(.lst [(.tup [(.kstr [109, 111, 118, 101]), (.kstr [109, 111, 118, 101]), (.kstr [99, 111, 117, 110, 116]), (.kint 7)]), (.tup [(.lst [(.kstr [109, 111, 118, 101])]), (.kstr [97]), (.kstr [98]), (.kint 1)]), (.tup [(.kstr [108, 97, 116, 101]), (.kint 0), (.kint 1)])])]), .freeze 1, .ret (.prim .add [(.var 1), (.lst [(.tup [(.kstr [99, 111, 117, 110, 116]), (.lst [(.kstr [97])]), (.kint 0)]), (.tup [(.kstr [97]), (.lst [(.kint 0)]), (.kint 1)])])])]⟩
/-- law -/
def d22 : Def := ⟨"law", ["_law_script"], ["_law_script", "_law_feed_here", "_law_items", "_law_sheet", "_law_item", "_law_kept", "_law_told", "_law_once"], [.gcall 1 9 [(.var 0)], .setOwn 2 (.stp (.call 21 []) [(.call 10 [(.gv 1), (.kint 4)])] 4), .set (.nm 3) (.call 17 [(.gv 1), (.kint 3)]), .forS (.nm 4) .seq [(.prim .add [(.prim .add [(.cut (.prim .ix [(.var 3), (.kint 0)]) [] [(.kint 1)]), (.cut (.prim .ix [(.var 3), (.kint 1)]) [] [(.kint 2)])]), (.prim .ix [(.var 3), (.kint 3)])])] [.set (.nm 7) (.call 19 [(.gv 1), (.var 4)]), .drop (.mutl .extend 2 [(.lst [(.var 4), (.var 7), (.call 19 [(.gv 1), (.var 7)])])])], .freeze 2, .set (.nm 5) (.prim .repr [(.var 2)]), .ifS (.or (.prim .ne [(.comp (.var 4) (.nm 4) .seq [(.var 2)] [(.not (.call 20 [(.var 4)]))] [4]), (.lst [])]) (.prim .ne [(.prim .repr [(.var 2)]), (.var 5)])) [.ret (.kbl false)] [], .set (.nm 6) (.lst [(.call 0 [(.prim .neg [(.kint 1)])]), (.call 1 [(.kint 0)]), (.call 3 [(.kstr [111, 117, 116])]), (.call 6 [(.tup [(.kstr [97]), (.kint 0), (.kint 0)])])]), .ret (.prim .eq [(.prim .repr [(.prim .add [(.var 6), (.lst [(.call 7 [(.tup [(.kstr [97]), (.kstr [98]), (.kint 1)])]), (.call 8 [(.tup [(.kstr [99, 111, 117, 110, 116]), (.kstr [97]), (.kint 0)])])])])]), (.prim .repr [(.prim .mul [(.lst [(.kbl true)]), (.kint 6)])])])]⟩
def fns : List Def := [d0, d1, d2, d3, d4, d5, d6, d7, d8, d9, d10, d11, d12, d13, d14, d15, d16, d17, d18, d19, d20, d21, d22]
def cs : List (Str × D) := [("LETTERS", (D.str [97, 98, 99, 100, 101, 102, 103, 104, 105, 106, 107, 108, 109, 110, 111, 112, 113, 114, 115, 116, 117, 118, 119, 120, 121, 122])), ("LONGEST", (D.int 8)), ("OUTSIDE", (D.str [111, 117, 116]))]
def places : List Nat := [4, 5, 6, 7, 8, 9, 10, 11, 12, 14, 15, 16, 17, 18, 19, 20, 21, 22, 23, 24, 25, 26, 27]
theorem ok0 : defB (cfgOf fns cs) d0 (top 4) = true := by decide +kernel
theorem ok1 : defB (cfgOf fns cs) d1 (top 5) = true := by decide +kernel
theorem ok2 : defB (cfgOf fns cs) d2 (top 6) = true := by decide +kernel
theorem ok3 : defB (cfgOf fns cs) d3 (top 7) = true := by decide +kernel
theorem ok4 : defB (cfgOf fns cs) d4 (top 8) = true := by decide +kernel
theorem ok5 : defB (cfgOf fns cs) d5 (top 9) = true := by decide +kernel
theorem ok6 : defB (cfgOf fns cs) d6 (top 10) = true := by decide +kernel
theorem ok7 : defB (cfgOf fns cs) d7 (top 11) = true := by decide +kernel
theorem ok8 : defB (cfgOf fns cs) d8 (top 12) = true := by decide +kernel
theorem ok9 : defB (cfgOf fns cs) d9 (top 14) = true := by decide +kernel
theorem ok10 : defB (cfgOf fns cs) d10 (top 15) = true := by decide +kernel
theorem ok11 : defB (cfgOf fns cs) d11 (top 16) = true := by decide +kernel
theorem ok12 : defB (cfgOf fns cs) d12 (top 17) = true := by decide +kernel
theorem ok13 : defB (cfgOf fns cs) d13 (top 18) = true := by decide +kernel
theorem ok14 : defB (cfgOf fns cs) d14 (top 19) = true := by decide +kernel
theorem ok15 : defB (cfgOf fns cs) d15 (top 20) = true := by decide +kernel
theorem ok16 : defB (cfgOf fns cs) d16 (top 21) = true := by decide +kernel
theorem ok17 : defB (cfgOf fns cs) d17 (top 22) = true := by decide +kernel
theorem ok18 : defB (cfgOf fns cs) d18 (top 23) = true := by decide +kernel
theorem ok19 : defB (cfgOf fns cs) d19 (top 24) = true := by decide +kernel
theorem ok20 : defB (cfgOf fns cs) d20 (top 25) = true := by decide +kernel
theorem ok21 : defB (cfgOf fns cs) d21 (top 26) = true := by decide +kernel
theorem ok22 : defB (cfgOf fns cs) d22 (top 27) = true := by decide +kernel
end K01
end Rf

set_option Elab.async false
set_option linter.all false
set_option maxRecDepth 100000
set_option maxHeartbeats 4000000
namespace Rf
open PySem PySem.Spec PyProof.Rows L2
namespace K01

def isInt : D → Bool
  | .int _ => true
  | _ => false
def isNum : D → Bool
  | .int i => decide (0 ≤ i)
  | _ => false
def isAmt : D → Bool
  | .int i => decide (0 < i)
  | _ => false
def low (c : Nat) : Bool := decide (97 ≤ c) && decide (c ≤ 122)
def isNm : D → Bool
  | .str x => decide (1 ≤ x.length) && decide (x.length ≤ 8) && x.all low
  | _ => false
def notOut : D → Bool
  | .str x => !decide (x = [111, 117, 116])
  | _ => true
def apart : D → D → Bool
  | .str x, .str y => !decide (x = y)
  | _, _ => true
def two (a b : D) : Bool := isNm a && isNm b && apart a b
def leI : D → D → Bool
  | .int i, .int j => decide (i ≤ j)
  | _, _ => false
def isPl : D → Bool
  | .tup [a, b, c] => isNm a && notOut a && isNum b && isNum c && leI b c
  | _ => false
def isCo : D → Bool
  | .tup [a, b, c] => two a b && isAmt c
  | _ => false
def isRw : D → Bool
  | .tup [.str w, a, b, c] => decide (w = [109, 111, 118, 101]) && two a b && isAmt c
  | .tup [.str w, a, b] => decide (w = [99, 111, 117, 110, 116]) && isNm a && notOut a && isNum b
  | _ => false
theorem t0 (n : Nat) : TB fns (n + 1) 0 = mirror (TB fns n) d0 := rfl
theorem t1 (n : Nat) : TB fns (n + 1) 1 = mirror (TB fns n) d1 := rfl
theorem t2 (n : Nat) : TB fns (n + 1) 2 = mirror (TB fns n) d2 := rfl
theorem t3 (n : Nat) : TB fns (n + 1) 3 = mirror (TB fns n) d3 := rfl
theorem t4 (n : Nat) : TB fns (n + 1) 4 = mirror (TB fns n) d4 := rfl
theorem t5 (n : Nat) : TB fns (n + 1) 5 = mirror (TB fns n) d5 := rfl
theorem t6 (n : Nat) : TB fns (n + 1) 6 = mirror (TB fns n) d6 := rfl
theorem t7 (n : Nat) : TB fns (n + 1) 7 = mirror (TB fns n) d7 := rfl
theorem t8 (n : Nat) : TB fns (n + 1) 8 = mirror (TB fns n) d8 := rfl
theorem t11 (n : Nat) : TB fns (n + 1) 11 = mirror (TB fns n) d11 := rfl
theorem t12 (n : Nat) : TB fns (n + 1) 12 = mirror (TB fns n) d12 := rfl
theorem t13 (n : Nat) : TB fns (n + 1) 13 = mirror (TB fns n) d13 := rfl
theorem t14 (n : Nat) : TB fns (n + 1) 14 = mirror (TB fns n) d14 := rfl
theorem t15 (n : Nat) : TB fns (n + 1) 15 = mirror (TB fns n) d15 := rfl
theorem t16 (n : Nat) : TB fns (n + 1) 16 = mirror (TB fns n) d16 := rfl
theorem s0 (n : Nat) (d : D) (g : List Gd) : TB fns (n + 1) 0 [.val d] g = .ret (.bl (isInt d)) g := by
  rw [t0]
  cases d <;> simp [mirror, d0, cutG, isInt, isTy, truth]
theorem s11 (n : Nat) (d : D) (g : List Gd) : TB fns (n + 1) 11 [.val d] g = .ret (.bl (isInt d)) g := by
  rw [t11]
  cases d <;> simp [mirror, d11, cutG, isInt, isTy, truth]
theorem s1 (n : Nat) (d : D) (g : List Gd) : TB fns (n + 2) 1 [.val d] g = .ret (.bl (isNum d)) g := by
  rw [t1]
  cases d <;> simp [mirror, d1, cutG, isInt, isNum, truth, s0]
theorem s12 (n : Nat) (d : D) (g : List Gd) : TB fns (n + 2) 12 [.val d] g = .ret (.bl (isNum d)) g := by
  rw [t12]
  cases d <;> simp [mirror, d12, cutG, isInt, isNum, truth, s11]
theorem s2 (n : Nat) (d : D) (g : List Gd) : TB fns (n + 3) 2 [.val d] g = .ret (.bl (isAmt d)) g := by
  rw [t2]
  cases d with
  | int i =>
    by_cases h : 0 ≤ i
    · simp [mirror, d2, cutG, isNum, isAmt, truth, s1, h]
    · have : ¬ 0 < i := by omega
      simp [mirror, d2, cutG, isNum, isAmt, truth, s1, h, this]
  | _ => simp [mirror, d2, cutG, isNum, isAmt, truth, s1]
theorem bools_map {α : Type} (f : α → Bool) : ∀ xs : List α, boolsD (xs.map fun x => .bl (f x)) = some (xs.map f)
  | [] => rfl
  | x :: xs => by simp [boolsD, bools_map f xs]
theorem low_eq (c : Nat) : decide (c ∈ ([97, 98, 99, 100, 101, 102, 103, 104, 105, 106, 107, 108, 109, 110, 111, 112, 113, 114, 115, 116, 117, 118, 119, 120, 121, 122] : List Nat)) = low c := by
  unfold low
  rw [← Bool.decide_and]
  refine decide_eq_decide.mpr ?_
  simp only [List.mem_cons, List.not_mem_nil, or_false]
  omega
def lowD : D → Bool
  | .str [c] => low c
  | _ => false
theorem lowD_map (x : List Nat) : (x.map fun c => D.str [c]).map (fun d => D.bl (lowD d)) = x.map fun c => .bl (low c) := by
  rw [List.map_map]; rfl
theorem s3 (n : Nat) (d : D) (g : List Gd) : TB fns (n + 1) 3 [.val d] g = .ret (.bl (isNm d)) g := by
  rw [t3]
  cases d with
  | str x =>
    by_cases h1 : 1 ≤ x.length
    · by_cases h2 : x.length ≤ 8
      · have e1 : ((1 : Int) ≤ (x.length : Int)) := by omega
        have e2 : ((x.length : Int) ≤ 8) := by omega
        have hc := comp_one (T := TB fns n) (elt := .prim .isin [.var 1, .glo "LETTERS" (D.str [97, 98, 99, 100, 101, 102, 103, 104, 105, 106, 107, 108, 109, 110, 111, 112, 113, 114, 115, 116, 117, 118, 119, 120, 121, 122])]) (i := 1) (it := .str) (src := [.var 0]) (cs := []) (st := ⟨[.val (.str x), .none], g⟩) (s1 := ⟨[.val (.str x), .none], g⟩) (ds := [.str x]) (xs := x.map fun c => .str [c])
          (fun _ => true) (fun d => .bl (lowD d)) (by simp) rfl (by simp) (fun y hy => by simp) (fun y hy _ => by
            obtain ⟨c, _, rfl⟩ := List.mem_map.mp hy
            simp only [ev_prim, evs_var, evs_glo, evs_nil, ev_var, ev_glo, bind_ok, ap_e22, List.set_cons_succ, List.set_cons_zero, List.getElem?_cons_succ, List.getElem?_cons_zero, inD, low_eq, Option.map_some, ofOpt_some, lowD]) (by have hb : (big : Nat) = 16777216 := rfl; rw [List.length_map]; omega) (by simp)
        rw [List.filter_eq_self.mpr (fun _ _ => rfl), lowD_map] at hc
        simp [mirror, d3, cutG, isNm, isTy, truth, e1, e2, h1, h2, hc, bools_map]
      · have e2 : ¬ ((x.length : Int) ≤ 8) := by omega
        by_cases e1 : ((1 : Int) ≤ (x.length : Int)) <;> simp [mirror, d3, cutG, isNm, isTy, truth, e1, e2, h1, h2]
    · have e1 : ¬ ((1 : Int) ≤ (x.length : Int)) := by omega
      simp [mirror, d3, cutG, isNm, isTy, truth, e1, h1]
  | _ => simp [mirror, d3, cutG, isNm, isTy, truth]
theorem nm_str {d : D} (h : isNm d = true) : ∃ x, d = .str x := by
  cases d <;> simp only [isNm] at h <;> first | (cases h; done) | exact ⟨_, rfl⟩
theorem s4 (n : Nat) (d : D) (g : List Gd) : TB fns (n + 2) 4 [.val d] g = .ret (.bl (isNm d && notOut d)) g := by
  rw [t4]
  cases h : isNm d with
  | false => simp [mirror, d4, cutG, s3, h]
  | true =>
    obtain ⟨x, rfl⟩ := nm_str h
    simp [mirror, d4, cutG, s3, h, eqD, notOut]
theorem s5 (n : Nat) (a b : D) (g : List Gd) : TB fns (n + 2) 5 [.val a, .val b] g = .ret (.bl (two a b)) g := by
  rw [t5]
  cases h : isNm a with
  | false => simp [mirror, d5, cutG, s3, h, two]
  | true =>
    cases h2 : isNm b with
    | false => simp [mirror, d5, cutG, s3, h, h2, two]
    | true =>
      obtain ⟨x, rfl⟩ := nm_str h
      obtain ⟨y, rfl⟩ := nm_str h2
      simp [mirror, d5, cutG, s3, h, h2, eqD, two, apart]
theorem len3 (n : Nat) : ¬ ((n : Int) + 1 + 1 + 1 + 1 = 3) := by omega
theorem num_int {d : D} (h : isNum d = true) : ∃ i, d = .int i := by
  cases d <;> simp only [isNum] at h <;> first | (cases h; done) | exact ⟨_, rfl⟩
theorem int_int {d : D} (h : isInt d = true) : ∃ i, d = .int i := by
  cases d <;> simp only [isInt] at h <;> first | (cases h; done) | exact ⟨_, rfl⟩
theorem s6 (n : Nat) (d : D) (g : List Gd) : TB fns (n + 3) 6 [.val d] g = .ret (.bl (isPl d)) g := by
  rw [t6]
  cases d with
  | tup xs =>
    rcases xs with _ | ⟨a, _ | ⟨b, _ | ⟨c, _ | ⟨e, es⟩⟩⟩⟩
    · simp [mirror, d6, cutG, isTy, truth, eqD, isPl]
    · simp [mirror, d6, cutG, isTy, truth, eqD, isPl]
    · simp [mirror, d6, cutG, isTy, truth, eqD, isPl]
    · have q0 : ixD (.tup [a, b, c]) 0 = some a := rfl
      have q1 : ixD (.tup [a, b, c]) 1 = some b := rfl
      have q2 : ixD (.tup [a, b, c]) 2 = some c := rfl
      cases h : (isNm a && notOut a) with
      | false => simp [mirror, d6, cutG, isTy, truth, eqD, isPl, q0, s4, h]
      | true =>
        cases hb : isNum b with
        | false => simp [mirror, d6, cutG, isTy, truth, eqD, isPl, q0, q1, s4, s1, h, hb]
        | true =>
          cases hc : isNum c with
          | false => simp [mirror, d6, cutG, isTy, truth, eqD, isPl, q0, q1, q2, s4, s1, h, hb, hc]
          | true =>
            obtain ⟨i, rfl⟩ := num_int hb
            obtain ⟨j, rfl⟩ := num_int hc
            simp [mirror, d6, cutG, isTy, truth, eqD, isPl, q0, q1, q2, s4, s1, h, hb, hc, leI]
    · simp [mirror, d6, cutG, isTy, truth, eqD, isPl, len3]
  | _ => simp [mirror, d6, cutG, isTy, truth, isPl]
theorem s7 (n : Nat) (d : D) (g : List Gd) : TB fns (n + 4) 7 [.val d] g = .ret (.bl (isCo d)) g := by
  rw [t7]
  cases d with
  | tup xs =>
    rcases xs with _ | ⟨a, _ | ⟨b, _ | ⟨c, _ | ⟨e, es⟩⟩⟩⟩
    · simp [mirror, d7, cutG, isTy, truth, eqD, isCo]
    · simp [mirror, d7, cutG, isTy, truth, eqD, isCo]
    · simp [mirror, d7, cutG, isTy, truth, eqD, isCo]
    · have q0 : ixD (.tup [a, b, c]) 0 = some a := rfl
      have q1 : ixD (.tup [a, b, c]) 1 = some b := rfl
      have q2 : ixD (.tup [a, b, c]) 2 = some c := rfl
      cases h : two a b <;> simp [mirror, d7, cutG, isTy, truth, eqD, isCo, q0, q1, q2, s5, s2, h]
    · simp [mirror, d7, cutG, isTy, truth, eqD, isCo, len3]
  | _ => simp [mirror, d7, cutG, isTy, truth, isCo]
end K01
end Rf

set_option Elab.async false
set_option linter.all false
set_option maxRecDepth 100000
set_option maxHeartbeats 4000000
namespace Rf
open PySem PySem.Spec PyProof.Rows L2
namespace K01

theorem lenS0 (n : Nat) : ¬ ((n : Int) + 1 = 0) := by omega
theorem len4a (n : Nat) : ¬ ((n : Int) + 1 + 1 + 1 + 1 + 1 = 4) := by omega
theorem len4b (n : Nat) : ¬ ((n : Int) + 1 + 1 + 1 + 1 + 1 = 3) := by omega
theorem len4c (n : Nat) : ¬ ((n : Int) + 1 + 1 + 1 + 1 + 1 = 0) := by omega
theorem s8 (n : Nat) (d : D) (g : List Gd) : TB fns (n + 4) 8 [.val d] g = .ret (.bl (isRw d)) g := by
  rw [t8]
  cases d with
  | tup xs =>
    rcases xs with _ | ⟨w, r⟩
    · simp [mirror, d8, cutG, isTy, truth, eqD, isRw]
    · have q0 : ixD (.tup (w :: r)) 0 = some w := by simp [ixD, atI, ixN]
      cases w with
      | str w =>
        by_cases hm : w = [109, 111, 118, 101]
        · subst hm
          rcases r with _ | ⟨a, _ | ⟨b, _ | ⟨c, _ | ⟨e, es⟩⟩⟩⟩
          · simp [mirror, d8, cutG, isTy, truth, eqD, isRw, q0]
          · simp [mirror, d8, cutG, isTy, truth, eqD, isRw, q0]
          · simp [mirror, d8, cutG, isTy, truth, eqD, isRw, q0]
          · have q1 : ixD (.tup [.str [109, 111, 118, 101], a, b, c]) 1 = some a := rfl
            have q2 : ixD (.tup [.str [109, 111, 118, 101], a, b, c]) 2 = some b := rfl
            have q3 : ixD (.tup [.str [109, 111, 118, 101], a, b, c]) 3 = some c := rfl
            cases h : two a b <;> simp [mirror, d8, cutG, isTy, truth, eqD, isRw, q0, q1, q2, q3, s5, s2, h]
          · simp [mirror, d8, cutG, isTy, truth, eqD, isRw, q0, len4a, len4b, len4c, lenS0]
        · by_cases hc : w = [99, 111, 117, 110, 116]
          · subst hc
            rcases r with _ | ⟨a, _ | ⟨b, _ | ⟨c, _ | ⟨e, es⟩⟩⟩⟩
            · simp [mirror, d8, cutG, isTy, truth, eqD, isRw, q0]
            · simp [mirror, d8, cutG, isTy, truth, eqD, isRw, q0]
            · have q1 : ixD (.tup [.str [99, 111, 117, 110, 116], a, b]) 1 = some a := rfl
              have q2 : ixD (.tup [.str [99, 111, 117, 110, 116], a, b]) 2 = some b := rfl
              cases h : (isNm a && notOut a) <;> simp [mirror, d8, cutG, isTy, truth, eqD, isRw, q0, q1, q2, s4, s1, h]
            · simp [mirror, d8, cutG, isTy, truth, eqD, isRw, q0]
            · simp [mirror, d8, cutG, isTy, truth, eqD, isRw, q0, len4a, len4b, len4c, lenS0]
          · have no : isRw (.tup (.str w :: r)) = false := by
              rcases r with _ | ⟨a, _ | ⟨b, _ | ⟨c, _ | ⟨e, es⟩⟩⟩⟩ <;> simp [isRw, hm, hc]
            simp [mirror, d8, cutG, isTy, truth, eqD, no, q0, hm, hc, lenS0]
      | _ =>
        have no : ∀ v, (∀ x, v ≠ .str x) → isRw (.tup (v :: r)) = false := by
          intro v hv
          rcases r with _ | ⟨a, _ | ⟨b, _ | ⟨c, _ | ⟨e, es⟩⟩⟩⟩ <;> cases v <;> first | rfl | exact absurd rfl (hv _)
        simp [mirror, d8, cutG, isTy, truth, eqD, no, q0, lenS0]
  | _ => simp [mirror, d8, cutG, isTy, truth, isRw]
theorem filter_nil (x : List Nat) : ((x.map fun c => D.str [c]).filter (fun d => !lowD d)).map (fun d => d) = [] ↔ x.all low = true := by
  rw [List.map_id', List.filter_eq_nil_iff]
  simp [lowD]
theorem strs_shaped : ∀ (x : List Nat), (∀ c ∈ x, PyData.strOk ⟨#[c]⟩ = true) → PyData.canLayAll0 (toPL (x.map fun c => D.str [c])) = true ∧ PyData.depthAll (toPL (x.map fun c => D.str [c])) = 0
  | [], _ => by simp [toPL, PyData.canLayAll0, PyData.depthAll]
  | c :: x, h => by
    obtain ⟨h1, h2⟩ := strs_shaped x fun d hd => h d (List.mem_cons_of_mem _ hd)
    have := h c (by simp)
    simp [toPL, toP, PyData.canLayAll0, PyData.depthAll, PyData.canLay0, PyData.depth, h1, h2, this]
theorem ok_chars {x : List Nat} (h : (toP (.str x)).canLay0 = true) : ∀ c ∈ x, PyData.strOk ⟨#[c]⟩ = true := by
  intro c hc
  simp only [toP, PyData.canLay0, PyData.strOk, Array.all_eq_true', List.mem_toArray, decide_eq_true_eq] at h
  simp only [PyData.strOk, Array.all_eq_true', decide_eq_true_eq]
  intro d hd
  have : d = c := by simpa using hd
  subst this
  exact h _ hc
theorem nil_eqv (xs : List D) : PyData.eqv (toP (.lst xs)) (toP (.lst [])) = xs.isEmpty := by
  cases xs <;> simp [toP, toPL, PyData.eqv, PyData.eqvAll]
theorem nil_eqvT (xs : List D) : PyData.eqv (toP (.tup xs)) (toP (.tup [])) = xs.isEmpty := by
  cases xs <;> simp [toP, toPL, PyData.eqv, PyData.eqvAll]
theorem sh_nil : SeqAt.shaped (toP (.lst [])) = true := by rfl
theorem sh_nilT : SeqAt.shaped (toP (.tup [])) = true := by rfl
theorem eqD_nil {xs : List D} (h : SeqAt.shaped (toP (.lst xs)) = true) : eqD (.lst xs) (.lst []) = some xs.isEmpty := by
  show (if SeqAt.shaped (toP (.lst xs)) && SeqAt.shaped (toP (.lst [])) then _ else _) = _
  rw [h, sh_nil, if_pos (by decide), nil_eqv]
theorem eqD_nilT {xs : List D} (h : SeqAt.shaped (toP (.tup xs)) = true) : eqD (.tup xs) (.tup []) = some xs.isEmpty := by
  show (if SeqAt.shaped (toP (.tup xs)) && SeqAt.shaped (toP (.tup [])) then _ else _) = _
  rw [h, sh_nilT, if_pos (by decide), nil_eqvT]
theorem sub_strs (x : List Nat) (f : D → Bool) (hx : (toP (.str x)).canLay0 = true) : SeqAt.shaped (toP (.lst ((x.map fun c => D.str [c]).filter f))) = true := by
  have : ((x.map fun c => D.str [c]).filter f) = (x.filter fun c => f (.str [c])).map fun c => D.str [c] := by
    rw [List.filter_map]; rfl
  rw [this]
  obtain ⟨h1, h2⟩ := strs_shaped (x.filter fun c => f (.str [c])) fun c hc => ok_chars hx c (List.mem_filter.mp hc).1
  simp [SeqAt.shaped, toP, PyData.canLay0, PyData.depth, h1, h2]
theorem s13 (n : Nat) (d : D) (g : List Gd) (hd : (toP d).canLay0 = true) : TB fns (n + 1) 13 [.val d] g = .ret (.bl (isNm d)) g := by
  rw [t13]
  cases d with
  | str x =>
    by_cases h1 : 1 ≤ x.length
    · by_cases h2 : x.length ≤ 8
      · have e1 : ((0 : Int) < (x.length : Int)) := by omega
        have e2 : ((x.length : Int) < 9) := by omega
        have hc := comp_one (T := TB fns n) (elt := .var 1) (i := 1) (it := .str) (src := [.var 0]) (cs := [.not (.chain .le .le (.kint 97) (.prim .ord [.var 1]) (.kint 122))]) (st := ⟨[.val (.str x), .none], g⟩) (s1 := ⟨[.val (.str x), .none], g⟩) (ds := [.str x]) (xs := x.map fun c => .str [c])
          (fun d => !lowD d) (fun d => d) (by simp) rfl (by simp) (fun y hy => by
            obtain ⟨c, _, rfl⟩ := List.mem_map.mp hy
            by_cases c1 : (97 : Int) ≤ (c : Int)
            · have c1' : 97 ≤ c := by omega
              by_cases c2 : (c : Int) ≤ 122
              · have c2' : c ≤ 122 := by omega
                simp [c1, c2, truth, lowD, low, c1', c2']
              · have c2' : ¬ c ≤ 122 := by omega
                simp [c1, c2, truth, lowD, low, c1', c2']
            · have c1' : ¬ 97 ≤ c := by omega
              simp [c1, truth, lowD, low, c1']) (fun y hy _ => by simp) (by have hb : (big : Nat) = 16777216 := rfl; rw [List.length_map]; omega) (by simp)
        have sh := sub_strs x (fun d => !lowD d) hd
        rw [List.map_id'] at hc
        have e := eqD_nil sh
        cases ha : x.all low with
        | true =>
          have := (filter_nil x).mpr ha
          rw [List.map_id'] at this
          rw [this] at hc
          have e0 : eqD (.lst []) (.lst []) = some true := rfl
          have e4 : 0 < x.length := h1
          simp [mirror, d13, cutG, isNm, isTy, truth, e4, e2, h1, h2, hc, e0, ha]
        | false =>
          have ne : ((x.map fun c => D.str [c]).filter (fun d => !lowD d)).isEmpty = false := by
            rw [Bool.eq_false_iff]
            intro z
            have := (filter_nil x).mp (by rw [List.map_id']; exact List.isEmpty_iff.mp z)
            rw [ha] at this; cases this
          rw [ne] at e
          have e4 : 0 < x.length := h1
          simp [mirror, d13, cutG, isNm, isTy, truth, e4, e2, h1, h2, hc, e, ha]
      · have e2 : ¬ ((x.length : Int) < 9) := by omega
        have e4 : 0 < x.length := h1
        simp [mirror, d13, cutG, isNm, isTy, truth, e4, e2, h1, h2]
    · have e4 : ¬ 0 < x.length := h1
      simp [mirror, d13, cutG, isNm, isTy, truth, e4, h1]
  | _ => simp [mirror, d13, cutG, isNm, isTy, truth]
end K01
end Rf

set_option Elab.async false
set_option linter.all false
set_option maxRecDepth 100000
set_option maxHeartbeats 4000000
namespace Rf
open PySem PySem.Spec PyProof.Rows L2
namespace K01

theorem ok_tup {xs : List D} (h : (toP (.tup xs)).canLay0 = true) : ∀ a ∈ xs, (toP a).canLay0 = true := by
  simp only [toP, PyData.canLay0] at h
  induction xs with
  | nil => intro a ha; simp at ha
  | cons x xs ih =>
    simp only [toPL, PyData.canLayAll0, Bool.and_eq_true] at h
    intro a ha
    rcases List.mem_cons.mp ha with rfl | ha
    · exact h.1
    · exact ih h.2 a ha
theorem s14 (n : Nat) (d : D) (g : List Gd) (hd : (toP d).canLay0 = true) : TB fns (n + 3) 14 [.val d] g = .ret (.bl (isPl d)) g := by
  rw [t14]
  cases d with
  | tup xs =>
    rcases xs with _ | ⟨a, _ | ⟨b, _ | ⟨c, _ | ⟨e, es⟩⟩⟩⟩
    · simp [mirror, d14, cutG, isTy, truth, eqD, isPl]
    · simp [mirror, d14, cutG, isTy, truth, eqD, isPl]
    · simp [mirror, d14, cutG, isTy, truth, eqD, isPl]
    · have q0 : ixD (.tup [a, b, c]) 0 = some a := rfl
      have q1 : ixD (.tup [a, b, c]) 1 = some b := rfl
      have q2 : ixD (.tup [a, b, c]) 2 = some c := rfl
      have ha := s13 (n + 1) a g (ok_tup hd a (by simp))
      cases h : isNm a with
      | false => simp [mirror, d14, cutG, isTy, truth, eqD, isPl, q0, ha, h]
      | true =>
        obtain ⟨x, rfl⟩ := nm_str h
        by_cases hx : x = [111, 117, 116]
        · simp [mirror, d14, cutG, isTy, truth, eqD, isPl, q0, ha, h, hx, notOut]
          subst hx
          simp [mirror, d14, cutG, isTy, truth, eqD, isPl, q0, ha, h, notOut]
        · cases hb : isNum b with
          | false => simp [mirror, d14, cutG, isTy, truth, eqD, isPl, q0, q1, ha, s12, h, hb, hx, notOut]
          | true =>
            cases hc : isNum c with
            | false => simp [mirror, d14, cutG, isTy, truth, eqD, isPl, q0, q1, q2, ha, s12, h, hb, hc, hx, notOut]
            | true =>
              obtain ⟨i, rfl⟩ := num_int hb
              obtain ⟨j, rfl⟩ := num_int hc
              simp [mirror, d14, cutG, isTy, truth, eqD, isPl, q0, q1, q2, ha, s12, h, hb, hc, leI, hx, notOut]
    · simp [mirror, d14, cutG, isTy, truth, eqD, isPl, len3]
  | _ => simp [mirror, d14, cutG, isTy, truth, isPl]
theorem s15 (n : Nat) (d : D) (g : List Gd) (hd : (toP d).canLay0 = true) : TB fns (n + 3) 15 [.val d] g = .ret (.bl (isCo d)) g := by
  rw [t15]
  cases d with
  | tup xs =>
    rcases xs with _ | ⟨a, _ | ⟨b, _ | ⟨c, _ | ⟨e, es⟩⟩⟩⟩
    · simp [mirror, d15, cutG, isTy, truth, eqD, isCo]
    · simp [mirror, d15, cutG, isTy, truth, eqD, isCo]
    · simp [mirror, d15, cutG, isTy, truth, eqD, isCo]
    · have q0 : ixD (.tup [a, b, c]) 0 = some a := rfl
      have q1 : ixD (.tup [a, b, c]) 1 = some b := rfl
      have q2 : ixD (.tup [a, b, c]) 2 = some c := rfl
      have ha := s13 (n + 1) a g (ok_tup hd a (by simp))
      have hb := s13 (n + 1) b g (ok_tup hd b (by simp))
      cases h : isNm a with
      | false => simp [mirror, d15, cutG, isTy, truth, eqD, isCo, two, q0, ha, h]
      | true =>
        cases h2 : isNm b with
        | false => simp [mirror, d15, cutG, isTy, truth, eqD, isCo, two, q0, q1, ha, hb, h, h2]
        | true =>
          obtain ⟨x, rfl⟩ := nm_str h
          obtain ⟨y, rfl⟩ := nm_str h2
          by_cases hx : x = y
          · simp [mirror, d15, cutG, isTy, truth, eqD, isCo, two, apart, q0, q1, ha, hb, h, h2, hx]
            subst hx
            simp [mirror, d15, cutG, isTy, truth, eqD, isCo, two, apart, q0, q1, ha, hb, h, h2]
          · cases hc : isInt c with
            | false =>
              have : isAmt c = false := by cases c <;> first | rfl | (simp [isInt] at hc)
              simp [mirror, d15, cutG, isTy, truth, eqD, isCo, two, apart, q0, q1, q2, ha, hb, s11, h, h2, hx, hc, this]
            | true =>
              obtain ⟨i, rfl⟩ := int_int hc
              simp [mirror, d15, cutG, isTy, truth, eqD, isCo, two, apart, q0, q1, q2, ha, hb, s11, h, h2, hx, hc, isAmt]
    · simp [mirror, d15, cutG, isTy, truth, eqD, isCo, len3]
  | _ => simp [mirror, d15, cutG, isTy, truth, isCo]
theorem s16 (n : Nat) (d : D) (g : List Gd) (hd : (toP d).canLay0 = true) (hp : (toP d).depth ≤ 64) : TB fns (n + 3) 16 [.val d] g = .ret (.bl (isRw d)) g := by
  rw [t16]
  cases d with
  | tup xs =>
    have sh : SeqAt.shaped (toP (.tup xs)) = true := by simp [SeqAt.shaped, hd, hp]
    have he := eqD_nilT sh
    rcases xs with _ | ⟨w, r⟩
    · have e0 : eqD (.tup []) (.tup []) = some true := rfl
      simp [mirror, d16, cutG, isTy, truth, e0, isRw]
    · have q0 : ixD (.tup (w :: r)) 0 = some w := by simp [ixD, atI, ixN]
      have he : eqD (.tup (w :: r)) (.tup []) = some false := he
      cases w with
      | str w =>
        have ew : ∀ k, eqD (.str w) (.str k) = some (decide (w = k)) := fun k => rfl
        have ei : ∀ i j, eqD (.int i) (.int j) = some (decide (i = j)) := fun i j => rfl
        have ex : ∀ x y : List Nat, eqD (.str x) (.str y) = some (decide (x = y)) := fun _ _ => rfl
        by_cases hm : w = [109, 111, 118, 101]
        · subst hm
          rcases r with _ | ⟨a, _ | ⟨b, _ | ⟨c, _ | ⟨e, es⟩⟩⟩⟩
          · simp [mirror, d16, cutG, isTy, truth, he, isRw, q0, ex, ei]
          · simp [mirror, d16, cutG, isTy, truth, he, isRw, q0, ex, ei]
          · simp [mirror, d16, cutG, isTy, truth, he, isRw, q0, ex, ei]
          · have q1 : ixD (.tup [.str [109, 111, 118, 101], a, b, c]) 1 = some a := rfl
            have q2 : ixD (.tup [.str [109, 111, 118, 101], a, b, c]) 2 = some b := rfl
            have q3 : ixD (.tup [.str [109, 111, 118, 101], a, b, c]) 3 = some c := rfl
            have ha := s13 (n + 1) a g (ok_tup hd a (by simp))
            have hb := s13 (n + 1) b g (ok_tup hd b (by simp))
            cases h : isNm a with
            | false => simp [mirror, d16, cutG, isTy, truth, he, isRw, q0, q1, ex, ei, ha, h, two]
            | true =>
              cases h2 : isNm b with
              | false => simp [mirror, d16, cutG, isTy, truth, he, isRw, q0, q1, q2, ex, ei, ha, hb, h, h2, two]
              | true =>
                obtain ⟨x, rfl⟩ := nm_str h
                obtain ⟨y, rfl⟩ := nm_str h2
                by_cases hx : x = y
                · subst hx
                  simp [mirror, d16, cutG, isTy, truth, he, isRw, q0, q1, q2, ex, ei, ha, hb, h, h2, two, apart]
                · cases hc : isInt c with
                  | false =>
                    have : isAmt c = false := by cases c <;> first | rfl | (simp [isInt] at hc)
                    simp [mirror, d16, cutG, isTy, truth, he, isRw, q0, q1, q2, q3, ex, ei, ha, hb, h, h2, two, apart, hx, s11, hc, this]
                  | true =>
                    obtain ⟨i, rfl⟩ := int_int hc
                    simp [mirror, d16, cutG, isTy, truth, he, isRw, q0, q1, q2, q3, ex, ei, ha, hb, h, h2, two, apart, hx, s11, hc, isAmt]
          · simp [mirror, d16, cutG, isTy, truth, he, isRw, q0, ex, ei, len4a, len4b]
        · by_cases hc : w = [99, 111, 117, 110, 116]
          · subst hc
            have ex : ∀ x y : List Nat, eqD (.str x) (.str y) = some (decide (x = y)) := fun _ _ => rfl
            rcases r with _ | ⟨a, _ | ⟨b, _ | ⟨c, _ | ⟨e, es⟩⟩⟩⟩
            · simp [mirror, d16, cutG, isTy, truth, he, isRw, q0, ex, ei]
            · simp [mirror, d16, cutG, isTy, truth, he, isRw, q0, ex, ei]
            · have q1 : ixD (.tup [.str [99, 111, 117, 110, 116], a, b]) 1 = some a := rfl
              have q2 : ixD (.tup [.str [99, 111, 117, 110, 116], a, b]) 2 = some b := rfl
              have ha := s13 (n + 1) a g (ok_tup hd a (by simp))
              cases h : isNm a with
              | false => simp [mirror, d16, cutG, isTy, truth, he, isRw, q0, q1, ex, ei, ha, h]
              | true =>
                obtain ⟨x, rfl⟩ := nm_str h
                by_cases hx : x = [111, 117, 116]
                · subst hx
                  simp [mirror, d16, cutG, isTy, truth, he, isRw, q0, q1, ex, ei, ha, h, notOut]
                · simp [mirror, d16, cutG, isTy, truth, he, isRw, q0, q1, q2, ex, ei, ha, h, hx, notOut, s12]
            · simp [mirror, d16, cutG, isTy, truth, he, isRw, q0, ex, ei]
            · simp [mirror, d16, cutG, isTy, truth, he, isRw, q0, ex, ei, len4a, len4b]
          · have no : isRw (.tup (.str w :: r)) = false := by
              rcases r with _ | ⟨a, _ | ⟨b, _ | ⟨c, _ | ⟨e, es⟩⟩⟩⟩ <;> simp [isRw, hm, hc]
            simp [mirror, d16, cutG, isTy, truth, he, no, q0, ew, ei, hm, hc]
      | _ =>
        have no : ∀ v, (∀ x, v ≠ .str x) → isRw (.tup (v :: r)) = false := by
          intro v hv
          rcases r with _ | ⟨a, _ | ⟨b, _ | ⟨c, _ | ⟨e, es⟩⟩⟩⟩ <;> cases v <;> first | rfl | exact absurd rfl (hv _)
        simp [mirror, d16, cutG, isTy, truth, he, no, q0]
  | _ => simp [mirror, d16, cutG, isTy, truth, isRw]
end K01
end Rf

set_option Elab.async false
set_option linter.all false
set_option maxRecDepth 100000
set_option maxHeartbeats 8000000
namespace Rf
open PySem PySem.Spec PyProof.Rows L2
namespace K01

theorem t20 (n : Nat) : TB fns (n + 1) 20 = mirror (TB fns n) d20 := rfl
theorem t21 (n : Nat) : TB fns (n + 1) 21 = mirror (TB fns n) d21 := rfl
theorem s20 (n : Nat) (d : D) (g : List Gd) (hd : (toP d).canLay0 = true) (hp : (toP d).depth ≤ 64) : TB fns (n + 5) 20 [.val d] g = .ret (.bl true) g := by
  rw [t20]
  obtain ⟨r, hr⟩ := repr_some (d := .lst [.bl (isInt d), .bl (isNum d), .bl (isNm d), .bl (isPl d), .bl (isCo d), .bl (isRw d)]) rfl rfl (by simp [toP, toPL, PyData.depth, PyData.depthAll]) (by simp [wD, wL, big])
  have a0 := s0 (n + 3) d g
  have a1 := s1 (n + 2) d g
  have a3 := s3 (n + 3) d g
  have a6 := s6 (n + 1) d g
  have a7 := s7 n d g
  have a8 := s8 n d g
  have a11 := s11 (n + 3) d g
  have a12 := s12 (n + 2) d g
  have a13 := s13 (n + 3) d g hd
  have a14 := s14 (n + 1) d g hd
  have a15 := s15 (n + 1) d g hd
  have a16 := s16 (n + 1) d g hd hp
  simp [mirror, d20, cutG, a0, a1, a3, a6, a7, a8, a11, a12, a13, a14, a15, a16, big, hr, eqD_str]
def far : Int := 10 ^ 59
def v0 : List D := [.int 0, .int 1, .int (-1), .int far, .int (-far), .bl true, .bl false, .non, .str [], .str [97], .str [97, 98, 99, 100, 101, 102, 103, 104], .str [97, 98, 99, 100, 101, 102, 103, 104, 105], .str [65], .str [97, 32, 98], .str [97, 49], .str [96], .str [123], .str [122]]
def v1 : List D := [.str [111, 117, 116], .str (List.replicate 900 [97]).flatten, .tup [], .lst [], .tup [.str [97]], .tup [.str [97], .int 0], .tup [.str [97], .int 0, .int 0], .tup [.str [97], .int 1, .int 0], .tup [.str [97], .int 3, .int 3], .tup [.str [97], .int 3, .int far]]
def v2 : List D := [.tup [.str [111, 117, 116], .int 0, .int 1], .tup [.str [65], .int 0, .int 1], .lst [.str [97], .int 0, .int 1], .tup [.str [97], .int (-1), .int 1], .tup [.str [97], .bl true, .int 1]]
def v3 : List D := [.tup [.str [97], .int 0, .bl true], .tup [.str [97], .int 0, .non]]
def v4 : List D := [.tup [.str [97], .int 0, .int 1, .int 2], .tup [.int 1, .int 0, .int 1], .tup [.str [], .int 0, .int 1], .tup [.str [97], .str [48], .int 1], .tup [.str [97], .str [98], .int 1], .tup [.str [97], .str [98], .int 0], .tup [.str [97], .str [98], .int far]]
def v5 : List D := [.tup [.str [97], .str [97], .int 1], .tup [.str [111, 117, 116], .str [97], .int 1], .tup [.str [97], .str [111, 117, 116], .int 1], .tup [.str [111, 117, 116], .str [111, 117, 116], .int 1], .tup [.str [97], .str [98], .bl true], .tup [.str [97], .str [98], .int (-1)]]
def v6 : List D := [.tup [.str [97], .str [66], .int 1], .tup [.str [97], .int 1, .str [98]], .lst [.str [97], .str [98], .int 1], .tup [.str [97], .str [98], .non], .tup [.str [97], .str [98]]]
def v7 : List D := [.tup [.str [97], .str [98], .int 1, .int 1], .tup [.non, .str [98], .int 1]]
def v8 : List D := [.tup [.str [109, 111, 118, 101], .str [97], .str [98], .int 1], .tup [.str [109, 111, 118, 101], .str [97], .str [97], .int 1], .tup [.str [109, 111, 118, 101], .str [97], .str [98], .int 0]]
def v9 : List D := [.tup [.str [109, 111, 118, 101], .str [111, 117, 116], .str [98], .int 2], .tup [.str [109, 111, 118, 101], .str [97], .str [98]]]
def v10 : List D := [.tup [.str [109, 111, 118, 101], .str [97], .str [111, 117, 116], .int 1], .tup [.str [109, 111, 118, 101], .str [111, 117, 116], .str [111, 117, 116], .int 1], .tup [.str [109, 111, 118, 101], .str [97], .str [98], .bl true], .tup [.str [109, 111, 118, 101], .str [97], .str [98], .int (-1)]]
def v11 : List D := [.lst [.str [109, 111, 118, 101], .str [97], .str [98], .int 1], .tup [.str [109, 111, 118, 101], .str [97], .str [98], .int 1, .int 1], .tup [.str [77, 111, 118, 101], .str [97], .str [98], .int 1]]
def v12 : List D := [.tup [.str [109, 111, 118, 101], .str [65], .str [98], .int 1], .tup [.str [109, 111, 118, 101]]]
def v13 : List D := [.tup [.str [109, 111, 118, 101], .str [97], .non, .int 1], .tup [.str [109, 111, 118, 101], .str [97], .str [98], .str [49]], .tup [.str [99, 111, 117, 110, 116], .str [97], .int 0]]
def v14 : List D := [.tup [.str [99, 111, 117, 110, 116], .str [97], .int far], .tup [.str [99, 111, 117, 110, 116], .str [97], .int (-1)]]
def v15 : List D := [.tup [.str [99, 111, 117, 110, 116], .str [111, 117, 116], .int 0], .tup [.str [99, 111, 117, 110, 116], .str [97], .bl true], .tup [.str [99, 111, 117, 110, 116], .str [97], .str [98], .int 1]]
def v16 : List D := [.tup [.str [99, 111, 117, 110, 116], .str [97]], .tup [.str [99, 111, 117, 110, 116], .str [99, 111, 117, 110, 116], .int 3]]
def v17 : List D := [.lst [.str [99, 111, 117, 110, 116], .str [97], .int 0], .tup [.str [99, 111, 117, 110, 116], .int 0, .str [97]], .tup [.str [99, 111, 117, 110, 116], .str [], .int 0], .tup [.str [99, 111, 117, 110, 116], .str [97], .non]]
def v18 : List D := [.tup [.str [99, 111, 117, 110, 116], .str [97], .int 0, .int 0], .tup [.str [111, 117, 116], .int 0]]
def v19 : List D := [.tup [.str [109, 111, 118, 101], .str [109, 111, 118, 101], .str [99, 111, 117, 110, 116], .int 7], .tup [.lst [.str [109, 111, 118, 101]], .str [97], .str [98], .int 1], .tup [.str [108, 97, 116, 101], .int 0, .int 1]]
def v20 : List D := [.tup [.str [99, 111, 117, 110, 116], .lst [.str [97]], .int 0], .tup [.str [97], .lst [.int 0], .int 1]]
def vals : List D := ((((((((((((((((((((v0 ++ v1) ++ v2) ++ v3) ++ v4) ++ v5) ++ v6) ++ v7) ++ v8) ++ v9) ++ v10) ++ v11) ++ v12) ++ v13) ++ v14) ++ v15) ++ v16) ++ v17) ++ v18) ++ v19) ++ v20)
theorem s21 (n : Nat) (g : List Gd) : TB fns (n + 1) 21 [] g = .ret (.lst vals) g := by
  rw [t21]
  simp [mirror, d21, cutG, MutK.ap, big, vals, v0, v1, v2, v3, v4, v5, v6, v7, v8, v9, v10, v11, v12, v13, v14, v15, v16, v17, v18, v19, v20,  far]
end K01
end Rf

set_option Elab.async false
set_option linter.all false
set_option maxRecDepth 100000
set_option maxHeartbeats 8000000
namespace Rf
open PySem PySem.Spec PyProof.Rows L2
namespace K01

def gv1 (B : Nat) (v : D) : Bool := (toP v).canLay0 && (toP v).showable && decide ((toP v).depth ≤ 4) && decide (wD v ≤ B)
theorem vals_gv : vals.all (gv1 10000) = true := by decide +kernel
theorem stp_len : ∀ r : Nat, r < 4 → (stpL vals (some (r : Int)) 4).length ≤ 100 := by decide +kernel
theorem stp_mem {α : Type} {xs : List α} {lo : Option Int} {k : Int} {a : α} (h : a ∈ stpL xs lo k) : a ∈ xs := by
  unfold stpL at h
  obtain ⟨i, _, hi⟩ := List.mem_filterMap.mp h
  exact List.mem_of_getElem? hi
theorem cut63 {α : Type} (xs : List α) (h : xs.length ≤ 63) : cutL xs none (some 63) = xs := by
  have e1 : HT.sIx xs.length 0 none = 0 := rfl
  have e2 : HT.sIx xs.length xs.length (some 63) = xs.length := by
    unfold HT.sIx
    simp only
    rw [if_neg (by decide)]
    omega
  unfold cutL
  rw [e1, e2]
  simp
theorem t9 (n : Nat) : TB fns (n + 1) 9 = mirror (TB fns n) d9 := rfl
theorem t10 (n : Nat) : TB fns (n + 1) 10 = mirror (TB fns n) hDraw := rfl
theorem t17 (n : Nat) : TB fns (n + 1) 17 = mirror (TB fns n) (hBook 10) := rfl
theorem t18 (n : Nat) : TB fns (n + 1) 18 = mirror (TB fns n) (hOdd 10) := rfl
theorem t19 (n : Nat) : TB fns (n + 1) 19 = mirror (TB fns n) (hBent 10 18 19) := rfl
theorem t22 (n : Nat) : TB fns (n + 1) 22 = mirror (TB fns n) d22 := rfl
theorem draw10 (n : Nat) : DrawOk (TB fns (n + 1) 10) := by rw [t10]; exact hDraw_ok _
theorem odd18 (n : Nat) : OddOk (TB fns (n + 2) 18) := by
  rw [t18]
  exact fun g j f h hf => odd_ok (draw10 n) h hf
theorem bent19 : ∀ (k n : Nat), k ≤ 50 → k ≤ n → BentOk (TB fns (n + 3) 19) k
  | 0, n, _, _ => by
    rw [t19]
    exact bent_ok (draw10 _) (odd18 _) (by omega) fun k' e => by omega
  | k + 1, n, h, hn => by
    rw [t19]
    refine bent_ok (draw10 _) (odd18 _) h fun k' e => ?_
    obtain rfl : k' = k := by omega
    obtain ⟨m, rfl⟩ : ∃ m, n = m + 1 := ⟨n - 1, by omega⟩
    exact bent19 k' m (by omega) (by omega)
theorem s9 (n : Nat) (ns : List Int) (h : ns.length ≤ 63) : TB fns (n + 1) 9 [.val (.lst (ns.map .int))] [] = .retG (fdOf ns 0 0 0) [] := by
  rw [t9]
  have c := cut63 (ns.map D.int) (by simpa using h)
  have nd : [(.inr "cells" : Key), .inr "at", .inr "left", .inr "count"].Nodup := by decide +kernel
  simp [mirror, d9, cutG, cutD, c, nd, fdOf] at nd ⊢
end K01
end Rf

set_option Elab.async false
set_option linter.all false
set_option maxRecDepth 100000
set_option maxHeartbeats 8000000
namespace Rf
open PySem PySem.Spec PyProof.Rows L2
namespace K01

def GoodD (t : D) : Prop := (toP t).canLay0 = true ∧ (toP t).showable = true ∧ (toP t).depth ≤ 10
theorem cut_take {α : Type} (xs : List α) (k : Nat) : cutL xs none (some (k : Int)) = xs.take k := by
  have e1 : HT.sIx xs.length 0 none = 0 := rfl
  have e2 : HT.sIx xs.length xs.length (some (k : Int)) = min k xs.length := by
    unfold HT.sIx
    simp only
    rw [if_neg (by omega)]
    omega
  unfold cutL
  rw [e1, e2]
  simp
theorem menu_sm : ∀ i < 4, ∀ x ∈ menu i, Sm 1 20 4 x := by
  intro i hi
  have : i = 0 ∨ i = 1 ∨ i = 2 ∨ i = 3 := by omega
  rcases this with rfl | rfl | rfl | rfl <;> (intro x hx; simp only [menu, List.mem_cons, List.not_mem_nil, or_false] at hx)
  · rcases hx with rfl | rfl <;> exact .mk (by simp) (by simp [Sm, Sc])
  · subst hx; exact .mk (by simp) (by simp [Sm, Sc])
  · rcases hx with rfl | rfl | rfl <;> exact .mk (by simp) (by simp [Sm, Sc])
  · rcases hx with rfl | rfl | rfl | rfl <;> exact .mk (by simp) (by simp [Sm, Sc])
theorem wL_app : ∀ xs ys : List D, wL (xs ++ ys) = wL xs + wL ys
  | [], ys => by simp [wL]
  | x :: xs, ys => by simp only [List.cons_append, wL, wL_app xs ys]; omega
theorem Sm.goodD {k s m : Nat} {d : D} (h : Sm k s m d) (hk : k ≤ 10) (hs : s ≤ 1000) : GoodD d ∧ wD d ≤ wB s m k := by
  obtain ⟨h1, h2, h3, h4⟩ := Sm.good (by omega) h
  exact ⟨⟨h1, h2, by omega⟩, h4⟩
def lSt (sc : D) (ts : List D) (sheet : D) (s4 s7 : Slot) (f : Gd) : Sx := ⟨[.val sc, .glb 0, .own ts, .val sheet, s4, .none, .none, s7], [f]⟩
def lawB : List S := match d22.body.getD 3 .pass with
  | .forS _ _ _ b => b
  | _ => []
theorem law_step {sc sheet t : D} {ts : List D} {s4 s7 : Slot} {f : Gd} (hf : Fd f) (ht : Sm 1 20 4 t) (hl : ts.length ≤ 1000) : ∃ a b s7' f', Fd f' ∧ Sm 2 80 5 a ∧ Sm 3 260 6 b ∧
    runs (TB fns 19) lawB (lSt sc ts sheet (.val t) s7 f) = .nx (lSt sc (ts ++ [t, a, b]) sheet (.val t) s7' f') := by
  obtain ⟨a, f1, ha, hf1, e1⟩ := bent19 1 16 (by decide) (by decide) 20 4 t [f] 0 f ht (by decide) (by decide) (by decide) (by decide) rfl hf
  obtain ⟨b, f2, hb, hf2, e2⟩ := bent19 2 16 (by decide) (by decide) 80 5 a [f1] 0 f1 ha (by decide) (by decide) (by decide) (by decide) rfl hf1
  refine ⟨a, b, .val a, f2, hf2, ha, hb, ?_⟩
  have l : ts.length + 3 ≤ 16777216 := by omega
  simp at e1 e2
  simp [lawB, d22, lSt, e1, e2, MutK.ap, big, l]
end K01
end Rf

set_option Elab.async false
set_option linter.all false
set_option maxRecDepth 100000
set_option maxHeartbeats 8000000
namespace Rf
open PySem PySem.Spec PyProof.Rows L2
namespace K01

theorem wB1 : wB 20 4 1 + wB 80 5 2 + wB 260 6 3 ≤ 1300000 := by decide
theorem law_loop {sc sheet : D} (its : List D) (h : ∀ t ∈ its, Sm 1 20 4 t) (hl : its.length ≤ 10) {ts : List D} {s7 : Slot} {f : Gd} (hf : Fd f) (ht : ∀ t ∈ ts, GoodD t) (h1 : ts.length ≤ 100) (h2 : wL ts ≤ 1000000) :
    ∃ ts' s4' s7' f', Fd f' ∧ (s4' = .none ∨ ∃ d, s4' = .val d) ∧ (∀ t ∈ ts', GoodD t) ∧ ts'.length ≤ 200 ∧ wL ts' ≤ 15000000 ∧ loopS (bindP (.nm 4)) (runs (TB fns 19) lawB) its (lSt sc ts sheet .none s7 f) = .nx (lSt sc ts' sheet s4' s7' f') := by
  let P : Nat → Sx → Prop := fun q s => ∃ ts' s4' s7' f', s = lSt sc ts' sheet s4' s7' f' ∧ Fd f' ∧ (s4' = .none ∨ ∃ d, s4' = .val d) ∧ (∀ t ∈ ts', GoodD t) ∧ ts'.length ≤ 100 + 3 * q ∧ wL ts' ≤ 1000000 + 1300000 * q
  obtain ⟨s', es, ts', s4', s7', f', rfl, q1, q0, q2, q3, q4⟩ := loop_inv (b := bindP (.nm 4)) (f := runs (TB fns 19) lawB) P its 0 (lSt sc ts sheet .none s7 f) ⟨ts, .none, s7, f, rfl, hf, .inl rfl, ht, by omega, by omega⟩ (by
    rintro q x s hx ⟨ts', s4', s7', f', rfl, q1, q0, q2, q3, q4⟩
    have hq : q < its.length := (List.getElem?_eq_some_iff.mp hx).1
    have hs := h x (List.mem_of_getElem? hx)
    obtain ⟨a, b, t7, f2, hf2, ha, hb, e⟩ := law_step (sc := sc) (sheet := sheet) (ts := ts') (s4 := s4') (s7 := s7') q1 hs (by omega)
    obtain ⟨gx, wx⟩ := Sm.goodD hs (by decide) (by decide)
    obtain ⟨ga, wa⟩ := Sm.goodD ha (by decide) (by decide)
    obtain ⟨gb, wb⟩ := Sm.goodD hb (by decide) (by decide)
    have w1 := wB1
    refine ⟨_, lSt sc (ts' ++ [x, a, b]) sheet (.val x) t7 f2, rfl, .inl e, _, _, t7, f2, rfl, hf2, .inr ⟨x, rfl⟩, ?_, ?_, ?_⟩
    · intro t ht
      rcases List.mem_append.mp ht with z | z
      · exact q2 t z
      · simp only [List.mem_cons, List.not_mem_nil, or_false] at z
        rcases z with rfl | rfl | rfl
        · exact gx
        · exact ga
        · exact gb
    · rw [List.length_append]; simp; omega
    · rw [wL_app]; simp only [wL]; omega)
  exact ⟨ts', s4', s7', f', q1, q0, q2, by omega, by omega, es⟩
theorem mir (T : Tbl) (sc : D) : mirror T d22 [.val sc] [] = cutG 0 (runs T d22.body ⟨[.val sc, .none, .none, .none, .none, .none, .none, .none], []⟩) := rfl
theorem law_true (ns : List Int) (h : ns.length ≤ 63) : TB fns 20 22 [.val (.lst (ns.map .int))] [] = .ret (.bl true) [] := by
  rw [t22]
  have e9 := s9 18 ns h
  have fd : Fd (fdOf ns 0 0 0) := ⟨ns, 0, 0, 0, rfl, by decide⟩
  obtain ⟨r0, f1, r1, r2, hf1, e1⟩ := draw10 18 [fdOf ns 0 0 0] 0 _ 4 rfl fd (by decide) (by decide)
  obtain ⟨i, costs, slip, rows, f2, hi, hc, lc, _, hr, lr, hf2, e2⟩ := book_ok (draw10 17) (g := [f1]) (j := 0) (n := 3) rfl hf1 (by decide) (by decide)
  rw [← t17] at e2
  have e21 := s21 18 [fdOf ns 0 0 0]
  simp at e1 e2
  have gv : ∀ t ∈ stpL vals (some r0) 4, GoodD t ∧ wD t ≤ 10000 := by
    intro t ht
    have := List.all_eq_true.mp vals_gv t (stp_mem ht)
    simp only [gv1, Bool.and_eq_true, decide_eq_true_eq] at this
    exact ⟨⟨this.1.1.1, this.1.1.2, by omega⟩, this.2⟩
  have sl := stp_len r0.toNat (by omega)
  rw [Int.toNat_of_nonneg r1] at sl
  have sw := wL_le (B := 10000) fun t ht => (gv t ht).2
  have its_sm : ∀ t ∈ (menu i).take 1 ++ costs.take 2 ++ rows, Sm 1 20 4 t := by
    intro t ht
    rcases List.mem_append.mp ht with z | z
    · rcases List.mem_append.mp z with z | z
      · exact menu_sm i hi t (List.mem_of_mem_take z)
      · exact (hc t (List.mem_of_mem_take z)).sm
    · exact (hr t z).sm
  have its_l : ((menu i).take 1 ++ costs.take 2 ++ rows).length ≤ 10 := by
    rw [List.length_append, List.length_append, List.length_take, List.length_take]; omega
  obtain ⟨ts, s4, s7, f3, hf3, h4, gts, lts, wts, el⟩ := law_loop (sc := .lst (ns.map .int)) (sheet := .tup [.tup (menu i), .tup costs, slip, .tup rows]) _ its_sm its_l (ts := stpL vals (some r0) 4) (s7 := .none) hf2 (fun t ht => (gv t ht).1) sl (by omega)
  have body : d22.body = d22.body.take 3 ++ ((d22.body.drop 3).take 1 ++ d22.body.drop 4) := rfl
  have st : stpD (.lst vals) (some r0) 4 = some (.lst (stpL vals (some r0) 4)) := by
    simp only [stpD]
    rw [if_pos ⟨by decide, by have : (big : Nat) = 16777216 := rfl
                              omega⟩]
  have p1 : runs (TB fns 19) (d22.body.take 3) ⟨[.val (.lst (ns.map .int)), .none, .none, .none, .none, .none, .none, .none], []⟩ = .nx (lSt (.lst (ns.map .int)) (stpL vals (some r0) 4) (.tup [.tup (menu i), .tup costs, slip, .tup rows]) .none .none f2) := by
    simp [d22, lSt, e9, e21, e1, st, e2]
  have rows3 : ((menu i).take 1 ++ costs.take 2 ++ rows).length ≤ 16777216 := by omega
  have p2 : runs (TB fns 19) ((d22.body.drop 3).take 1) (lSt (.lst (ns.map .int)) (stpL vals (some r0) 4) (.tup [.tup (menu i), .tup costs, slip, .tup rows]) .none .none f2) = .nx (lSt (.lst (ns.map .int)) ts (.tup [.tup (menu i), .tup costs, slip, .tup rows]) s4 s7 f3) := by
    have hs : (d22.body.drop 3).take 1 = [.forS (.nm 4) .seq [(.prim .add [(.prim .add [(.cut (.prim .ix [(.var 3), (.kint 0)]) [] [(.kint 1)]), (.cut (.prim .ix [(.var 3), (.kint 1)]) [] [(.kint 2)])]), (.prim .ix [(.var 3), (.kint 3)])])] lawB] := rfl
    rw [hs, runs_cons, run_for]
    have i0 : ixD (.tup [.tup (menu i), .tup costs, slip, .tup rows]) 0 = some (.tup (menu i)) := rfl
    have i1 : ixD (.tup [.tup (menu i), .tup costs, slip, .tup rows]) 1 = some (.tup costs) := rfl
    have i3 : ixD (.tup [.tup (menu i), .tup costs, slip, .tup rows]) 3 = some (.tup rows) := rfl
    have c1 : cutL (menu i) none (some 1) = (menu i).take 1 := cut_take _ 1
    have c2 : cutL costs none (some 2) = costs.take 2 := cut_take _ 2
    have bg : (big : Nat) = 16777216 := rfl
    have l1 : ((menu i).take 1).length + (costs.take 2).length ≤ big := by rw [List.length_take, List.length_take]; omega
    have l2 : ((menu i).take 1 ++ costs.take 2).length + rows.length ≤ big := by rw [List.length_append, List.length_take, List.length_take]; omega
    have hv : evs (TB fns 19) [(.prim .add [(.prim .add [(.cut (.prim .ix [(.var 3), (.kint 0)]) [] [(.kint 1)]), (.cut (.prim .ix [(.var 3), (.kint 1)]) [] [(.kint 2)])]), (.prim .ix [(.var 3), (.kint 3)])])] (lSt (.lst (ns.map .int)) (stpL vals (some r0) 4) (.tup [.tup (menu i), .tup costs, slip, .tup rows]) .none .none f2) = .ok [.tup ((menu i).take 1 ++ costs.take 2 ++ rows)] (lSt (.lst (ns.map .int)) (stpL vals (some r0) 4) (.tup [.tup (menu i), .tup costs, slip, .tup rows]) .none .none f2) := by
      simp only [lSt, evs_prim, ev_prim, evs_cut, ev_cut_prim, evs_var, ev_var, evs_kint, ev_kint, evs_nil, bind_ok, evp_nil, evp_cons, List.getElem?_cons_succ, List.getElem?_cons_zero, ap_ix_tup, i0, i1, i3, ofOpt_some, cutD, c1, c2, ap_e4, if_pos l1, if_pos l2]
    rw [hv]
    simp only [onE_ok, ItK.get, el, runs_nil]
  obtain ⟨al1, al2⟩ := all_lay fun t ht => ⟨(gts t ht).1, (gts t ht).2.1⟩
  have al3 := all_depth (B := 10) fun t ht => (gts t ht).2.2
  have bg : (big : Nat) = 16777216 := rfl
  obtain ⟨rr, hrr⟩ := repr_some (d := .lst ts) (by simpa [toP, PyData.canLay0] using al1) (by simpa [toP, PyData.showable] using al2) (by simp only [toP, PyData.depth]; omega) (by simp only [wD]; omega)
  have hcomp := comp_one (T := TB fns 19) (elt := .var 4) (i := 4) (it := .seq) (src := [.var 2]) (cs := [.not (.call 20 [.var 4])]) (st := ⟨[.val (.lst (ns.map .int)), .glb 0, .val (.lst ts), .val (.tup [.tup (menu i), .tup costs, slip, .tup rows]), s4, .val (.str rr), .none, s7], [f3]⟩) (s1 := ⟨[.val (.lst (ns.map .int)), .glb 0, .val (.lst ts), .val (.tup [.tup (menu i), .tup costs, slip, .tup rows]), s4, .val (.str rr), .none, s7], [f3]⟩) (ds := [.lst ts]) (xs := ts)
    (fun _ => false) (fun d => d) (by simp) rfl (by simp) (fun x hx => by
      have := s20 14 x [f3] (gts x hx).1 (by have := (gts x hx).2.2; omega)
      simp at this
      simp [this, truth]) (fun _ _ h => by cases h) (by omega) (by rcases h4 with rfl | ⟨d, rfl⟩ <;> simp)
  have e0 : eqD (.lst []) (.lst []) = some true := rfl
  have er : eqD (.str rr) (.str rr) = some true := by rw [eqD_str]; simp
  have fn : ts.filter (fun _ => false) = [] := List.filter_eq_nil_iff.mpr (by simp)
  rw [fn, List.map_nil] at hcomp
  obtain ⟨r6, h6⟩ := repr_some (d := .lst [.bl true, .bl true, .bl true, .bl true, .bl true, .bl true]) rfl rfl (by simp [toP, toPL, PyData.depth, PyData.depthAll]) (by simp [wD, wL, big])
  have e6 : eqD (.str r6) (.str r6) = some true := by rw [eqD_str]; simp
  have b0 := K01.s0 18 (.int (-1)) [f3]
  have b1 := K01.s1 17 (.int 0) [f3]
  have b3 := K01.s3 18 (.str [111, 117, 116]) [f3]
  have b6 := K01.s6 16 (.tup [.str [97], .int 0, .int 0]) [f3]
  have b7 := K01.s7 15 (.tup [.str [97], .str [98], .int 1]) [f3]
  have b8 := K01.s8 15 (.tup [.str [99, 111, 117, 110, 116], .str [97], .int 0]) [f3]
  let SH : D := .tup [.tup (menu i), .tup costs, slip, .tup rows]
  have q1 : runs (TB fns 19) ((d22.body.drop 4).take 2) (lSt (.lst (ns.map .int)) ts SH s4 s7 f3) = .nx ⟨[.val (.lst (ns.map .int)), .glb 0, .val (.lst ts), .val SH, s4, .val (.str rr), .none, s7], [f3]⟩ := by
    simp [d22, lSt, hrr]
  have q2 : runs (TB fns 19) ((d22.body.drop 6).take 1) ⟨[.val (.lst (ns.map .int)), .glb 0, .val (.lst ts), .val SH, s4, .val (.str rr), .none, s7], [f3]⟩ = .nx ⟨[.val (.lst (ns.map .int)), .glb 0, .val (.lst ts), .val SH, s4, .val (.str rr), .none, s7], [f3]⟩ := by
    simp [d22, hcomp, e0, er, hrr, truth, big, SH]
  have q3 : ∃ s', runs (TB fns 19) (d22.body.drop 7) ⟨[.val (.lst (ns.map .int)), .glb 0, .val (.lst ts), .val SH, s4, .val (.str rr), .none, s7], [f3]⟩ = .ret (.bl true) s' := by
    simp [d22, b0, b1, b3, b6, b7, b8, isInt, isNum, isNm, isPl, isCo, isRw, low, notOut, two, apart, isAmt, leI, h6, e6, big, List.replicate]
  have p3 : ∃ s', runs (TB fns 19) (d22.body.drop 4) (lSt (.lst (ns.map .int)) ts SH s4 s7 f3) = .ret (.bl true) s' := by
    obtain ⟨s', q3⟩ := q3
    have e : d22.body.drop 4 = (d22.body.drop 4).take 2 ++ ((d22.body.drop 6).take 1 ++ d22.body.drop 7) := rfl
    rw [e, runs_app, q1]
    simp only
    rw [runs_app, q2]
    simp only
    exact ⟨s', q3⟩
  obtain ⟨s', p3⟩ := p3
  have m := mir (TB fns 19) (.lst (ns.map .int))
  rw [m, body, runs_app, p1]
  simp only
  rw [runs_app, p2]
  simp only
  rw [p3]
  simp [cutG]
end K01
end Rf

namespace Rf.K01
open PySem PySem.Spec PyProof.Rows L2

theorem made_mk {K : PySem.W.Frag} {h : Heap} {mg : Str → Option Value} (X : K.In h) (G : h.Ns mainGlobals mg) {C : Cfg} {d : Def} {x : Str} {st : Stmt} {f : Addr} {od an : Option Addr} {sl : Array (Option Value)} {oc kV dc pm cd ct : Value} (hx : d.x = x)
    (a : PySem.W.nsIn K mainGlobals x = some (some (.ref f))) (l : K.lookup f = some ⟨oc, od, .func (PySem.W.fnOf x x (defArgs st) (defBody st) (defScope st) .none kV dc pm an cd ct), sl⟩) (c : PySem.W.codeIn K cd x = true) (k : PySem.W.keepIn K (.ref f) = true) (hb : defB C d st = true) : Made K mg C d := by
  subst hx
  exact ⟨st, f, _, fun_mk l c k, hb, PySem.W.mg_of X G a⟩

theorem all_facts {K : PySem.W.Frag} {h : Heap} {mg : Str → Option Value} (X : K.In h) (G : h.Ns mainGlobals mg)
    {f0 : Addr} {od0 an0 : Option Addr} {sl0 : Array (Option Value)} {oc0 kV0 dc0 pm0 cd0 ct0 : Value}
    {f1 : Addr} {od1 an1 : Option Addr} {sl1 : Array (Option Value)} {oc1 kV1 dc1 pm1 cd1 ct1 : Value}
    {f2 : Addr} {od2 an2 : Option Addr} {sl2 : Array (Option Value)} {oc2 kV2 dc2 pm2 cd2 ct2 : Value}
    {f3 : Addr} {od3 an3 : Option Addr} {sl3 : Array (Option Value)} {oc3 kV3 dc3 pm3 cd3 ct3 : Value}
    {f4 : Addr} {od4 an4 : Option Addr} {sl4 : Array (Option Value)} {oc4 kV4 dc4 pm4 cd4 ct4 : Value}
    {f5 : Addr} {od5 an5 : Option Addr} {sl5 : Array (Option Value)} {oc5 kV5 dc5 pm5 cd5 ct5 : Value}
    {f6 : Addr} {od6 an6 : Option Addr} {sl6 : Array (Option Value)} {oc6 kV6 dc6 pm6 cd6 ct6 : Value}
    {f7 : Addr} {od7 an7 : Option Addr} {sl7 : Array (Option Value)} {oc7 kV7 dc7 pm7 cd7 ct7 : Value}
    {f8 : Addr} {od8 an8 : Option Addr} {sl8 : Array (Option Value)} {oc8 kV8 dc8 pm8 cd8 ct8 : Value}
    {f9 : Addr} {od9 an9 : Option Addr} {sl9 : Array (Option Value)} {oc9 kV9 dc9 pm9 cd9 ct9 : Value}
    {f10 : Addr} {od10 an10 : Option Addr} {sl10 : Array (Option Value)} {oc10 kV10 dc10 pm10 cd10 ct10 : Value}
    {f11 : Addr} {od11 an11 : Option Addr} {sl11 : Array (Option Value)} {oc11 kV11 dc11 pm11 cd11 ct11 : Value}
    {f12 : Addr} {od12 an12 : Option Addr} {sl12 : Array (Option Value)} {oc12 kV12 dc12 pm12 cd12 ct12 : Value}
    {f13 : Addr} {od13 an13 : Option Addr} {sl13 : Array (Option Value)} {oc13 kV13 dc13 pm13 cd13 ct13 : Value}
    {f14 : Addr} {od14 an14 : Option Addr} {sl14 : Array (Option Value)} {oc14 kV14 dc14 pm14 cd14 ct14 : Value}
    {f15 : Addr} {od15 an15 : Option Addr} {sl15 : Array (Option Value)} {oc15 kV15 dc15 pm15 cd15 ct15 : Value}
    {f16 : Addr} {od16 an16 : Option Addr} {sl16 : Array (Option Value)} {oc16 kV16 dc16 pm16 cd16 ct16 : Value}
    {f17 : Addr} {od17 an17 : Option Addr} {sl17 : Array (Option Value)} {oc17 kV17 dc17 pm17 cd17 ct17 : Value}
    {f18 : Addr} {od18 an18 : Option Addr} {sl18 : Array (Option Value)} {oc18 kV18 dc18 pm18 cd18 ct18 : Value}
    {f19 : Addr} {od19 an19 : Option Addr} {sl19 : Array (Option Value)} {oc19 kV19 dc19 pm19 cd19 ct19 : Value}
    {f20 : Addr} {od20 an20 : Option Addr} {sl20 : Array (Option Value)} {oc20 kV20 dc20 pm20 cd20 ct20 : Value}
    {f21 : Addr} {od21 an21 : Option Addr} {sl21 : Array (Option Value)} {oc21 kV21 dc21 pm21 cd21 ct21 : Value}
    {f22 : Addr} {od22 an22 : Option Addr} {sl22 : Array (Option Value)} {oc22 kV22 dc22 pm22 cd22 ct22 : Value}
    {t0 : Tok} {t1 : Tok} {t2 : Tok}
    (a0 : PySem.W.nsIn K mainGlobals "is_integer" = some (some (.ref f0))) (l0 : K.lookup f0 = some ⟨oc0, od0, .func (PySem.W.fnOf "is_integer" "is_integer" (defArgs (top 4)) (defBody (top 4)) (defScope (top 4)) .none kV0 dc0 pm0 an0 cd0 ct0), sl0⟩) (c0 : PySem.W.codeIn K cd0 "is_integer" = true) (k0 : PySem.W.keepIn K (.ref f0) = true)
    (a1 : PySem.W.nsIn K mainGlobals "is_number" = some (some (.ref f1))) (l1 : K.lookup f1 = some ⟨oc1, od1, .func (PySem.W.fnOf "is_number" "is_number" (defArgs (top 5)) (defBody (top 5)) (defScope (top 5)) .none kV1 dc1 pm1 an1 cd1 ct1), sl1⟩) (c1 : PySem.W.codeIn K cd1 "is_number" = true) (k1 : PySem.W.keepIn K (.ref f1) = true)
    (a2 : PySem.W.nsIn K mainGlobals "is_amount" = some (some (.ref f2))) (l2 : K.lookup f2 = some ⟨oc2, od2, .func (PySem.W.fnOf "is_amount" "is_amount" (defArgs (top 6)) (defBody (top 6)) (defScope (top 6)) .none kV2 dc2 pm2 an2 cd2 ct2), sl2⟩) (c2 : PySem.W.codeIn K cd2 "is_amount" = true) (k2 : PySem.W.keepIn K (.ref f2) = true)
    (a3 : PySem.W.nsIn K mainGlobals "is_name" = some (some (.ref f3))) (l3 : K.lookup f3 = some ⟨oc3, od3, .func (PySem.W.fnOf "is_name" "is_name" (defArgs (top 7)) (defBody (top 7)) (defScope (top 7)) .none kV3 dc3 pm3 an3 cd3 ct3), sl3⟩) (c3 : PySem.W.codeIn K cd3 "is_name" = true) (k3 : PySem.W.keepIn K (.ref f3) = true)
    (a4 : PySem.W.nsIn K mainGlobals "is_place_name" = some (some (.ref f4))) (l4 : K.lookup f4 = some ⟨oc4, od4, .func (PySem.W.fnOf "is_place_name" "is_place_name" (defArgs (top 8)) (defBody (top 8)) (defScope (top 8)) .none kV4 dc4 pm4 an4 cd4 ct4), sl4⟩) (c4 : PySem.W.codeIn K cd4 "is_place_name" = true) (k4 : PySem.W.keepIn K (.ref f4) = true)
    (a5 : PySem.W.nsIn K mainGlobals "are_two_names" = some (some (.ref f5))) (l5 : K.lookup f5 = some ⟨oc5, od5, .func (PySem.W.fnOf "are_two_names" "are_two_names" (defArgs (top 9)) (defBody (top 9)) (defScope (top 9)) .none kV5 dc5 pm5 an5 cd5 ct5), sl5⟩) (c5 : PySem.W.codeIn K cd5 "are_two_names" = true) (k5 : PySem.W.keepIn K (.ref f5) = true)
    (a6 : PySem.W.nsIn K mainGlobals "is_place" = some (some (.ref f6))) (l6 : K.lookup f6 = some ⟨oc6, od6, .func (PySem.W.fnOf "is_place" "is_place" (defArgs (top 10)) (defBody (top 10)) (defScope (top 10)) .none kV6 dc6 pm6 an6 cd6 ct6), sl6⟩) (c6 : PySem.W.codeIn K cd6 "is_place" = true) (k6 : PySem.W.keepIn K (.ref f6) = true)
    (a7 : PySem.W.nsIn K mainGlobals "is_cost" = some (some (.ref f7))) (l7 : K.lookup f7 = some ⟨oc7, od7, .func (PySem.W.fnOf "is_cost" "is_cost" (defArgs (top 11)) (defBody (top 11)) (defScope (top 11)) .none kV7 dc7 pm7 an7 cd7 ct7), sl7⟩) (c7 : PySem.W.codeIn K cd7 "is_cost" = true) (k7 : PySem.W.keepIn K (.ref f7) = true)
    (a8 : PySem.W.nsIn K mainGlobals "is_row" = some (some (.ref f8))) (l8 : K.lookup f8 = some ⟨oc8, od8, .func (PySem.W.fnOf "is_row" "is_row" (defArgs (top 12)) (defBody (top 12)) (defScope (top 12)) .none kV8 dc8 pm8 an8 cd8 ct8), sl8⟩) (c8 : PySem.W.codeIn K cd8 "is_row" = true) (k8 : PySem.W.keepIn K (.ref f8) = true)
    (a9 : PySem.W.nsIn K mainGlobals "_law_feed" = some (some (.ref f9))) (l9 : K.lookup f9 = some ⟨oc9, od9, .func (PySem.W.fnOf "_law_feed" "_law_feed" (defArgs (top 14)) (defBody (top 14)) (defScope (top 14)) .none kV9 dc9 pm9 an9 cd9 ct9), sl9⟩) (c9 : PySem.W.codeIn K cd9 "_law_feed" = true) (k9 : PySem.W.keepIn K (.ref f9) = true)
    (a10 : PySem.W.nsIn K mainGlobals "_law_draw" = some (some (.ref f10))) (l10 : K.lookup f10 = some ⟨oc10, od10, .func (PySem.W.fnOf "_law_draw" "_law_draw" (defArgs (top 15)) (defBody (top 15)) (defScope (top 15)) .none kV10 dc10 pm10 an10 cd10 ct10), sl10⟩) (c10 : PySem.W.codeIn K cd10 "_law_draw" = true) (k10 : PySem.W.keepIn K (.ref f10) = true)
    (a11 : PySem.W.nsIn K mainGlobals "_law_whole" = some (some (.ref f11))) (l11 : K.lookup f11 = some ⟨oc11, od11, .func (PySem.W.fnOf "_law_whole" "_law_whole" (defArgs (top 16)) (defBody (top 16)) (defScope (top 16)) .none kV11 dc11 pm11 an11 cd11 ct11), sl11⟩) (c11 : PySem.W.codeIn K cd11 "_law_whole" = true) (k11 : PySem.W.keepIn K (.ref f11) = true)
    (a12 : PySem.W.nsIn K mainGlobals "_law_count" = some (some (.ref f12))) (l12 : K.lookup f12 = some ⟨oc12, od12, .func (PySem.W.fnOf "_law_count" "_law_count" (defArgs (top 17)) (defBody (top 17)) (defScope (top 17)) .none kV12 dc12 pm12 an12 cd12 ct12), sl12⟩) (c12 : PySem.W.codeIn K cd12 "_law_count" = true) (k12 : PySem.W.keepIn K (.ref f12) = true)
    (a13 : PySem.W.nsIn K mainGlobals "_law_named" = some (some (.ref f13))) (l13 : K.lookup f13 = some ⟨oc13, od13, .func (PySem.W.fnOf "_law_named" "_law_named" (defArgs (top 18)) (defBody (top 18)) (defScope (top 18)) .none kV13 dc13 pm13 an13 cd13 ct13), sl13⟩) (c13 : PySem.W.codeIn K cd13 "_law_named" = true) (k13 : PySem.W.keepIn K (.ref f13) = true)
    (a14 : PySem.W.nsIn K mainGlobals "_law_placed" = some (some (.ref f14))) (l14 : K.lookup f14 = some ⟨oc14, od14, .func (PySem.W.fnOf "_law_placed" "_law_placed" (defArgs (top 19)) (defBody (top 19)) (defScope (top 19)) .none kV14 dc14 pm14 an14 cd14 ct14), sl14⟩) (c14 : PySem.W.codeIn K cd14 "_law_placed" = true) (k14 : PySem.W.keepIn K (.ref f14) = true)
    (a15 : PySem.W.nsIn K mainGlobals "_law_priced" = some (some (.ref f15))) (l15 : K.lookup f15 = some ⟨oc15, od15, .func (PySem.W.fnOf "_law_priced" "_law_priced" (defArgs (top 20)) (defBody (top 20)) (defScope (top 20)) .none kV15 dc15 pm15 an15 cd15 ct15), sl15⟩) (c15 : PySem.W.codeIn K cd15 "_law_priced" = true) (k15 : PySem.W.keepIn K (.ref f15) = true)
    (a16 : PySem.W.nsIn K mainGlobals "_law_rowed" = some (some (.ref f16))) (l16 : K.lookup f16 = some ⟨oc16, od16, .func (PySem.W.fnOf "_law_rowed" "_law_rowed" (defArgs (top 21)) (defBody (top 21)) (defScope (top 21)) .none kV16 dc16 pm16 an16 cd16 ct16), sl16⟩) (c16 : PySem.W.codeIn K cd16 "_law_rowed" = true) (k16 : PySem.W.keepIn K (.ref f16) = true)
    (a17 : PySem.W.nsIn K mainGlobals "_law_book" = some (some (.ref f17))) (l17 : K.lookup f17 = some ⟨oc17, od17, .func (PySem.W.fnOf "_law_book" "_law_book" (defArgs (top 22)) (defBody (top 22)) (defScope (top 22)) .none kV17 dc17 pm17 an17 cd17 ct17), sl17⟩) (c17 : PySem.W.codeIn K cd17 "_law_book" = true) (k17 : PySem.W.keepIn K (.ref f17) = true)
    (a18 : PySem.W.nsIn K mainGlobals "_law_odd" = some (some (.ref f18))) (l18 : K.lookup f18 = some ⟨oc18, od18, .func (PySem.W.fnOf "_law_odd" "_law_odd" (defArgs (top 23)) (defBody (top 23)) (defScope (top 23)) .none kV18 dc18 pm18 an18 cd18 ct18), sl18⟩) (c18 : PySem.W.codeIn K cd18 "_law_odd" = true) (k18 : PySem.W.keepIn K (.ref f18) = true)
    (a19 : PySem.W.nsIn K mainGlobals "_law_bent" = some (some (.ref f19))) (l19 : K.lookup f19 = some ⟨oc19, od19, .func (PySem.W.fnOf "_law_bent" "_law_bent" (defArgs (top 24)) (defBody (top 24)) (defScope (top 24)) .none kV19 dc19 pm19 an19 cd19 ct19), sl19⟩) (c19 : PySem.W.codeIn K cd19 "_law_bent" = true) (k19 : PySem.W.keepIn K (.ref f19) = true)
    (a20 : PySem.W.nsIn K mainGlobals "_law_right" = some (some (.ref f20))) (l20 : K.lookup f20 = some ⟨oc20, od20, .func (PySem.W.fnOf "_law_right" "_law_right" (defArgs (top 25)) (defBody (top 25)) (defScope (top 25)) .none kV20 dc20 pm20 an20 cd20 ct20), sl20⟩) (c20 : PySem.W.codeIn K cd20 "_law_right" = true) (k20 : PySem.W.keepIn K (.ref f20) = true)
    (a21 : PySem.W.nsIn K mainGlobals "_law_values" = some (some (.ref f21))) (l21 : K.lookup f21 = some ⟨oc21, od21, .func (PySem.W.fnOf "_law_values" "_law_values" (defArgs (top 26)) (defBody (top 26)) (defScope (top 26)) .none kV21 dc21 pm21 an21 cd21 ct21), sl21⟩) (c21 : PySem.W.codeIn K cd21 "_law_values" = true) (k21 : PySem.W.keepIn K (.ref f21) = true)
    (a22 : PySem.W.nsIn K mainGlobals "law" = some (some (.ref f22))) (l22 : K.lookup f22 = some ⟨oc22, od22, .func (PySem.W.fnOf "law" "law" (defArgs (top 27)) (defBody (top 27)) (defScope (top 27)) .none kV22 dc22 pm22 an22 cd22 ct22), sl22⟩) (c22 : PySem.W.codeIn K cd22 "law" = true) (k22 : PySem.W.keepIn K (.ref f22) = true)
    (gg0 : PySem.W.nsIn K mainGlobals "LETTERS" = some (some (.str "abcdefghijklmnopqrstuvwxyz" t0)))
    (gg1 : PySem.W.nsIn K mainGlobals "LONGEST" = some (some (.int 8 t1)))
    (gg2 : PySem.W.nsIn K mainGlobals "OUTSIDE" = some (some (.str "out" t2)))
    (z0 : PySem.W.nsIn K mainGlobals "len" = some none) (z1 : PySem.W.nsIn K mainGlobals "all" = some none) (z2 : PySem.W.nsIn K mainGlobals "any" = some none) (z3 : PySem.W.nsIn K mainGlobals "ord" = some none) (z4 : PySem.W.nsIn K mainGlobals "isinstance" = some none) (z5 : PySem.W.nsIn K mainGlobals "range" = some none) (z6 : PySem.W.nsIn K mainGlobals "int" = some none) (z7 : PySem.W.nsIn K mainGlobals "bool" = some none) (z8 : PySem.W.nsIn K mainGlobals "str" = some none) (z9 : PySem.W.nsIn K mainGlobals "tuple" = some none) (z10 : PySem.W.nsIn K mainGlobals "list" = some none) (z11 : PySem.W.nsIn K mainGlobals "dict" = some none) (z12 : PySem.W.nsIn K mainGlobals "sorted" = some none) (z13 : PySem.W.nsIn K mainGlobals "repr" = some none) (z14 : PySem.W.nsIn K mainGlobals "min" = some none) (z15 : PySem.W.nsIn K mainGlobals "max" = some none) (z16 : PySem.W.nsIn K mainGlobals "sum" = some none) (z17 : PySem.W.nsIn K mainGlobals "abs" = some none) (z18 : PySem.W.nsIn K mainGlobals "enumerate" = some none) (z19 : PySem.W.nsIn K mainGlobals "zip" = some none) (z20 : PySem.W.nsIn K mainGlobals "set" = some none) (z21 : PySem.W.nsIn K mainGlobals "next" = some none) :
    (∀ d ∈ fns, Made K mg (cfgOf fns cs) d) ∧ (∀ p ∈ cs, ∃ u v, mg p.1 = some u ∧ scalV p.2 = some v ∧ RelV v u) ∧ (∀ x ∈ bltNames, mg x = none) := by
  refine ⟨fun d hd => ?_, fun p hp => ?_, fun x hx => ?_⟩
  · simp only [fns, List.mem_cons, List.not_mem_nil, or_false] at hd
    rcases hd with rfl | rfl | rfl | rfl | rfl | rfl | rfl | rfl | rfl | rfl | rfl | rfl | rfl | rfl | rfl | rfl | rfl | rfl | rfl | rfl | rfl | rfl | rfl
    · exact made_mk X G (x := "is_integer") rfl a0 l0 c0 k0 ok0
    · exact made_mk X G (x := "is_number") rfl a1 l1 c1 k1 ok1
    · exact made_mk X G (x := "is_amount") rfl a2 l2 c2 k2 ok2
    · exact made_mk X G (x := "is_name") rfl a3 l3 c3 k3 ok3
    · exact made_mk X G (x := "is_place_name") rfl a4 l4 c4 k4 ok4
    · exact made_mk X G (x := "are_two_names") rfl a5 l5 c5 k5 ok5
    · exact made_mk X G (x := "is_place") rfl a6 l6 c6 k6 ok6
    · exact made_mk X G (x := "is_cost") rfl a7 l7 c7 k7 ok7
    · exact made_mk X G (x := "is_row") rfl a8 l8 c8 k8 ok8
    · exact made_mk X G (x := "_law_feed") rfl a9 l9 c9 k9 ok9
    · exact made_mk X G (x := "_law_draw") rfl a10 l10 c10 k10 ok10
    · exact made_mk X G (x := "_law_whole") rfl a11 l11 c11 k11 ok11
    · exact made_mk X G (x := "_law_count") rfl a12 l12 c12 k12 ok12
    · exact made_mk X G (x := "_law_named") rfl a13 l13 c13 k13 ok13
    · exact made_mk X G (x := "_law_placed") rfl a14 l14 c14 k14 ok14
    · exact made_mk X G (x := "_law_priced") rfl a15 l15 c15 k15 ok15
    · exact made_mk X G (x := "_law_rowed") rfl a16 l16 c16 k16 ok16
    · exact made_mk X G (x := "_law_book") rfl a17 l17 c17 k17 ok17
    · exact made_mk X G (x := "_law_odd") rfl a18 l18 c18 k18 ok18
    · exact made_mk X G (x := "_law_bent") rfl a19 l19 c19 k19 ok19
    · exact made_mk X G (x := "_law_right") rfl a20 l20 c20 k20 ok20
    · exact made_mk X G (x := "_law_values") rfl a21 l21 c21 k21 ok21
    · exact made_mk X G (x := "law") rfl a22 l22 c22 k22 ok22
  · simp only [cs, List.mem_cons, List.not_mem_nil, or_false] at hp
    rcases hp with rfl | rfl | rfl
    · exact ⟨_, _, PySem.W.mg_of X G gg0, rfl, t0, congrArg (fun z => Value.str z t0) (by decide +kernel)⟩
    · exact ⟨_, _, PySem.W.mg_of X G gg1, rfl, t1, rfl⟩
    · exact ⟨_, _, PySem.W.mg_of X G gg2, rfl, t2, congrArg (fun z => Value.str z t2) (by decide +kernel)⟩
  · simp only [bltNames, List.mem_cons, List.not_mem_nil, or_false] at hx
    rcases hx with rfl | rfl | rfl | rfl | rfl | rfl | rfl | rfl | rfl | rfl | rfl | rfl | rfl | rfl | rfl | rfl | rfl | rfl | rfl | rfl | rfl | rfl
    · exact PySem.W.mg_none_of X G z0
    · exact PySem.W.mg_none_of X G z1
    · exact PySem.W.mg_none_of X G z2
    · exact PySem.W.mg_none_of X G z3
    · exact PySem.W.mg_none_of X G z4
    · exact PySem.W.mg_none_of X G z5
    · exact PySem.W.mg_none_of X G z6
    · exact PySem.W.mg_none_of X G z7
    · exact PySem.W.mg_none_of X G z8
    · exact PySem.W.mg_none_of X G z9
    · exact PySem.W.mg_none_of X G z10
    · exact PySem.W.mg_none_of X G z11
    · exact PySem.W.mg_none_of X G z12
    · exact PySem.W.mg_none_of X G z13
    · exact PySem.W.mg_none_of X G z14
    · exact PySem.W.mg_none_of X G z15
    · exact PySem.W.mg_none_of X G z16
    · exact PySem.W.mg_none_of X G z17
    · exact PySem.W.mg_none_of X G z18
    · exact PySem.W.mg_none_of X G z19
    · exact PySem.W.mg_none_of X G z20
    · exact PySem.W.mg_none_of X G z21
end Rf.K01
open PySem PySem.W PyProof.Rows
set_option maxRecDepth 100000 in
set_option maxHeartbeats 0 in
theorem PySem.Challenge.cw_unbooked_k01_kinds_told_holds : PySem.Challenge.rw_unbooked_k01_kinds_told.Holds := by
  w_on; o_law; k_head; (case hw => w_witness2)
  k_fill
  refine Rf.rf_walk (l := PySem.Challenge.rw_unbooked_k01_kinds_told) (n := 63) (k := 20) (j := 22) (ds := Rf.K01.fns) (cs := Rf.K01.cs) (dl := Rf.K01.d22) (y := "_law_script") rfl (by decide) rfl ⟨rfl, by decide, by decide⟩ rfl rfl rfl (fun w h Y => PySem.W.kIn_of Y) ?nol ?F Rf.K01.law_true
  case nol => intro w; rfl
  case F =>
    intro w mg h KX G
    refine' Rf.K01.all_facts KX G ?a0 ?l0 ?c0 ?k0 ?a1 ?l1 ?c1 ?k1 ?a2 ?l2 ?c2 ?k2 ?a3 ?l3 ?c3 ?k3 ?a4 ?l4 ?c4 ?k4 ?a5 ?l5 ?c5 ?k5 ?a6 ?l6 ?c6 ?k6 ?a7 ?l7 ?c7 ?k7 ?a8 ?l8 ?c8 ?k8 ?a9 ?l9 ?c9 ?k9 ?a10 ?l10 ?c10 ?k10 ?a11 ?l11 ?c11 ?k11 ?a12 ?l12 ?c12 ?k12 ?a13 ?l13 ?c13 ?k13 ?a14 ?l14 ?c14 ?k14 ?a15 ?l15 ?c15 ?k15 ?a16 ?l16 ?c16 ?k16 ?a17 ?l17 ?c17 ?k17 ?a18 ?l18 ?c18 ?k18 ?a19 ?l19 ?c19 ?k19 ?a20 ?l20 ?c20 ?k20 ?a21 ?l21 ?c21 ?k21 ?a22 ?l22 ?c22 ?k22 ?gg0 ?gg1 ?gg2 ?z0 ?z1 ?z2 ?z3 ?z4 ?z5 ?z6 ?z7 ?z8 ?z9 ?z10 ?z11 ?z12 ?z13 ?z14 ?z15 ?z16 ?z17 ?z18 ?z19 ?z20 ?z21
    (case a0 => k_is); (case l0 => k_is); (case c0 => k_is); (case k0 => k_is)
    (case a1 => k_is); (case l1 => k_is); (case c1 => k_is); (case k1 => k_is)
    (case a2 => k_is); (case l2 => k_is); (case c2 => k_is); (case k2 => k_is)
    (case a3 => k_is); (case l3 => k_is); (case c3 => k_is); (case k3 => k_is)
    (case a4 => k_is); (case l4 => k_is); (case c4 => k_is); (case k4 => k_is)
    (case a5 => k_is); (case l5 => k_is); (case c5 => k_is); (case k5 => k_is)
    (case a6 => k_is); (case l6 => k_is); (case c6 => k_is); (case k6 => k_is)
    (case a7 => k_is); (case l7 => k_is); (case c7 => k_is); (case k7 => k_is)
    (case a8 => k_is); (case l8 => k_is); (case c8 => k_is); (case k8 => k_is)
    (case a9 => k_is); (case l9 => k_is); (case c9 => k_is); (case k9 => k_is)
    (case a10 => k_is); (case l10 => k_is); (case c10 => k_is); (case k10 => k_is)
    (case a11 => k_is); (case l11 => k_is); (case c11 => k_is); (case k11 => k_is)
    (case a12 => k_is); (case l12 => k_is); (case c12 => k_is); (case k12 => k_is)
    (case a13 => k_is); (case l13 => k_is); (case c13 => k_is); (case k13 => k_is)
    (case a14 => k_is); (case l14 => k_is); (case c14 => k_is); (case k14 => k_is)
    (case a15 => k_is); (case l15 => k_is); (case c15 => k_is); (case k15 => k_is)
    (case a16 => k_is); (case l16 => k_is); (case c16 => k_is); (case k16 => k_is)
    (case a17 => k_is); (case l17 => k_is); (case c17 => k_is); (case k17 => k_is)
    (case a18 => k_is); (case l18 => k_is); (case c18 => k_is); (case k18 => k_is)
    (case a19 => k_is); (case l19 => k_is); (case c19 => k_is); (case k19 => k_is)
    (case a20 => k_is); (case l20 => k_is); (case c20 => k_is); (case k20 => k_is)
    (case a21 => k_is); (case l21 => k_is); (case c21 => k_is); (case k21 => k_is)
    (case a22 => k_is); (case l22 => k_is); (case c22 => k_is); (case k22 => k_is)
    (case gg0 => k_is); (case gg1 => k_is); (case gg2 => k_is); (case z0 => k_is)
    (case z1 => k_is); (case z2 => k_is); (case z3 => k_is); (case z4 => k_is)
    (case z5 => k_is); (case z6 => k_is); (case z7 => k_is); (case z8 => k_is)
    (case z9 => k_is); (case z10 => k_is); (case z11 => k_is); (case z12 => k_is)
    (case z13 => k_is); (case z14 => k_is); (case z15 => k_is); (case z16 => k_is)
    (case z17 => k_is); (case z18 => k_is); (case z19 => k_is); (case z20 => k_is)
    (case z21 => k_is)
